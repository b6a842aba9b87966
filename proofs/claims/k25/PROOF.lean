import PyProof.Rows.All
import Wide.All
import OpenK.AllK
import Wide.FinOn
import KE.KExcSuper
import KE.KExcInit
import KE.KSuper
import KE.KTryMore
import HandS.Exc
import HandS.ExcField
import HandS.ExcValue
import HandS.ExcIs
import HandS.HeadHook2
import HandS.TryMany
import KE.KExcIs
import HandS.ForMost
import HandS.ForExc
import HandS.TupAny
import HandS.Deep
import HandS.Wide
import HandS.TupLe
import HandS.IsInst
import HandS.SortInts
import HandS.More
import HandS.Walk
import HandS.Zip
import HandS.Style
import KE.KRevSl
import HandS.Conv
import HandS.Defaults
import HandS.HeadHook1
import KE.DatumOrd
import KE.DatumMore
import KE.GoesEnum
import KE.GoesMore
import PyProof.Rows.Range3
import HandS.DictComp
import PyProof.ExcBaseAll.ValueError
import PyProof.ExcBaseAll.LookupError
import PyProof.ExcBaseAll.RuntimeError
import PyProof.ExcBaseAll.OverflowError
import PyProof.InstStoreFacts
import KE.SortData
import HandS.HeadEnd
import PyProof.ReprRoads
import HandS.SetFor
import HandS.Strs
import HandS.SetKeys
import HandS.TupMul
import HandS.Dict
import HandS.Small
import HandS.SetBool
import HandS.Text
import HandS.Steps
import PyProof.ListStr
import HandS.DictTup
import HandS.WordsDict
import PySem.Challenge.RW_putinside_k25_error_classes
import KE.KStateDown
import Lean
import HandS.Head0
import HandS.Head1
import HandS.Head2
section
set_option Elab.async false
set_option linter.all false
set_option maxRecDepth 100000
set_option maxHeartbeats 4000000
/-! an own exception is made: its __init__ says super().__init__(text), then perhaps self.f = f -/
namespace DVX
open PySem PySem.Spec PySem.Calls PyProof.Rows L2 PySem.W
/-- what the written part says of such a class -/
structure SupC (K : Frag) (C : Addr) (B i newId : String) (bmB : List Value) : Prop where
  FB : ExcBaseFacts B newId i bmB
  KF : KxsFacts B i
  SF : StoreFacts B bmB "object.__setattr__" "object"
  q : excInitIn K C bmB newId = true
  th : nsIn K cStatics "thirdparty.any" = some none
  up : ks_superIn K C C "__init__" = some (some (.builtin i))
  bB : subIn K (.ref C) (.type B) = some true
  sa : findIn K (.ref C) "__setattr__" = some (some (.builtin "object.__setattr__"))
  ov : excOver K C bmB = true
  hd : hasDictIn K C = true
  own : mroIn K C (.ref C) = some true
  cl : (clsIn K C).isSome = true
section
variable {prog : Program} {w : World} {A : Around} {s : Shared} {R : Result → Shared → Prop} {K : Frag} {mg : Str → Option Value} {base : Heap} {C fI cc cda e t : Addr} {u : Value} {B i newId : String} {bmB : List Value}
  {qual f txt : Str} {params : Arguments} {scope : Scope} {dV kV doc pm ct oc ccl cl : Value} {an od cdd cld : Option Addr} {osl ccs csl : Array (Option Value)} {vs : Array Value} {file : Str} {tf : Tok} {p0 p1 p2 p3 p4 p5 p6 p7 p8 p9 : Pos} {j : Nat} {ar : Arg}
abbrev iniS (txt : Str) (p0 p1 p2 p3 p4 p5 : Pos) (j : Nat) : Stmt := .Expr (.Call (.Attribute (.Call (.Name "super" p0) [] [] p1) "__init__" p2) [.Constant (.str txt) j p3] [] p4) p5
abbrev iniF (f : Str) (p6 p7 p8 p9 : Pos) : Stmt := .Assign [.Attribute (.Name "self" p6) f p7] (.Name f p8) p9
/-- the first statement: super().__init__(text) -/
theorem ini_super {L : Addr} {h₀ : Heap} {m mb : Str → Option Value} {body : List Stmt} {Q : Flow → Shared → Prop} {E : Value → Shared → Prop} (T : SupC K C B i newId bmB) (F : Fr h₀ L s.heap m) (X₀ : K.In h₀) (G₀ : h₀.Ns mainGlobals mg) (B₀ : h₀.Ns builtinsNs mb) (hb : mb "super" = some (.type "super")) (hg : mg "super" = none)
    (N : News h₀ L s.heap [(e, excObj C t none .none)]) (hself : m "self" = some (.ref e))
    (hfn : K.lookup fI = some ⟨oc, od, .func (ksFn "__init__" qual params body scope dV kV doc pm an (.ref cda) ct cc), osl⟩) (hp : (params.posonlyargs ++ params.args).head? = some ar) (har : ar.arg = "self")
    (hcode : K.lookup cda = some ⟨ccl, cdd, .fields vs, ccs⟩) (hvs : vs[2]? = some (.str file tf)) (hfile : ((prog.main.file : Str) == file) = true) (htop : (prog.main.scope.names.lookup ("super" : Str)).isSome = false)
    (hcell : K.lookup cc = some ⟨cl, cld, .cell (some (.ref C)), csl⟩) (hks : scope.names.lookup ("super" : Str) = some .globalImplicit) (hkc : scope.names.lookup ("__class__" : Str) = some .free) (hka : scope.names.lookup ("self" : Str) = some .local) (hk : scope.kind = .function)
    (hev : ∃ pl, eval (.Call (.Attribute (.Call (.Name "super" p0) [] [] p1) "__init__" p2) [.Constant (.str txt) j p3] [] p4) (ksEnv qual scope L fI (.ref cda) cc) = (do
      let ov ← attributeBase (.Call (.Name "super" p0) [] [] p1) "__init__" (ksEnv qual scope L fI (.ref cda) cc) (eval (.Call (.Name "super" p0) [] [] p1) (ksEnv qual scope L fI (.ref cda) cc))
      standAt p2.atName
      let (f, first) ← holding [ov] (getMethod ov "__init__" pl)
      callWith p4 f first (backTo p4 (starEach [.Constant (.str txt) j p3] (ksEnv qual scope L fI (.ref cda) cc))) []))
    (h : ∀ h' t' tk, Fr h₀ L h' m → News h₀ L h' [(e, excObj C t' none .none)] → Q .next { s with heap := h', toks := tk }) :
    _root_.PySem.wpAt (model prog w) A (.func body (ksEnv qual scope L fI (.ref cda) cc)) (exec (iniS txt p0 p1 p2 p3 p4 p5 j) (ksEnv qual scope L fI (.ref cda) cc)) Q E s := by
  have X : K.In s.heap := X₀.keeps F.keep
  obtain ⟨cdD, hD⟩ := Option.isSome_iff_exists.mp T.cl
  obtain ⟨oD, hD1, hD2⟩ : ∃ oD, s.heap.get? C = some oD ∧ oD.data = .cls cdD := by
    unfold clsIn at hD
    split at hD
    · rename_i c d cd' sl ho
      cases hD
      exact ⟨_, X _ _ ho, rfl⟩
    · cases hD
  have I0 : InstAt s.heap e (excObj C t none .none) C none := ⟨(N (e, excObj C t none .none) (by simp)).1, rfl, rfl, trivial⟩
  obtain ⟨pl, hev⟩ := hev
  have hi : interactive (ksEnv qual scope L fI (.ref cda) cc) = false := by
    show (scope.kind == .module && _) = false
    rw [hk]; rfl
  refine ks_wpAt_Expr_any (ks_wpAt_MethodCall ?_ hev) hi
  refine ks_wpAt_super_base (env := ksEnv qual scope L fI (.ref cda) cc) hks hkc (by decide) rfl (X _ _ hfn) rfl hp rfl (X _ _ hcode) rfl hvs hfile htop ?_
  refine ks_loadName_global hk hks (loadGlobal_builtin (env := ksEnv qual scope L fI (.ref cda) cc) (G₀.keeps F.keep) hg (B₀.keeps F.keep) hb ⟨rfl, ?_⟩)
  refine wpAny_loadName_free hk hkc rfl ⟨_, X _ _ hcell, rfl⟩ ?_
  refine wpAny_loadName_local hk (by rw [har]; exact hka) F.ns (by rw [har]; exact hself) ?_
  refine ks_wpAny_isType_cls hD1 hD2 ⟨rfl, ?_⟩
  refine ks_wpAny_call_super hD1 hD2 I0.at_ I0.cls (fun c z => by cases z) (looks_mroIn X T.own) (fun h' z k => ?_)
  obtain ⟨F1, N1, l1⟩ := ks_newsPush F N rfl z k
  have I1 : InstAt h' e (excObj C t none .none) C none := ⟨(N1 (e, excObj C t none .none) (by simp)).1, rfl, rfl, trivial⟩
  refine kxs_method T.KF F1 X₀ N1 (by simp) I1 T.th T.up T.bB (by decide) (fun q2 h2 F2 N2 l2 => ?_)
  refine kxs_callWith1 (i := i) (x := e) N2 (by simp) ?_
  show wpAny _ _ (spliced ((false, eval (.Constant (.str txt) j p3) (ksEnv qual scope L fI (.ref cda) cc)) :: backTo p4 (starEach [] (ksEnv qual scope L fI (.ref cda) cc)))) _ _ _
  refine Calls.spliced_cons (Calls.Constant_str ?_)
  refine Calls.spliced_nil ⟨kxs_at (i := i) (x := e) N2 (by simp), ?_⟩
  have l1' := l1 (e, excObj C t none .none) (by simp)
  have l2' := l2 (e, excObj C t none .none) (by simp)
  refine kxs_call (c2 := .none) (s := { s with heap := h2, toks := s.toks + 1 + 1 }) F2 X₀ N2 T.FB T.q (by simp) (.tail (Nat.ne_of_gt l2') (.tail (Nat.ne_of_gt l1') (.head (by simp)))) (by simp [sizeLine_eq]) (fun t' h3 F3 N3 l3 => ?_)
  refine h _ t' _ F3 fun p hp => N3 p ?_
  rw [List.mem_singleton] at hp
  subst hp
  simp
theorem one_ns1 {h : Heap} {dx : Addr} {f : Str} {hs : Int} {tok : Tok} {u : Value} {n : Nat} (hd : h.get? dx = some (dictOf (putL f hs (.str f tok) u []) n)) : h.Ns1 dx (fun y => if y = f then some u else none) := by
  refine ⟨_, #[⟨hs, .str f tok, u⟩], n, hd, rfl, fun e he => ?_, ?_, fun y => ?_⟩
  · simp at he
    subst he
    exact ⟨f, tok, rfl⟩
  · unfold UniqKeys
    simp
  · unfold nsFind findBy
    by_cases c : y = f
    · subst c
      simp [Value.isStr]
    · have c' : (f == y) = false := by simpa using fun z => c z.symm
      simp [Value.isStr, c, c']
/-- the second one: self.f = f -/
theorem ini_store {L : Addr} {h₀ : Heap} {m : Str → Option Value} {Q : Flow → Shared → Prop} {E : Value → Shared → Prop} (T : SupC K C B i newId bmB) (F : Fr h₀ L s.heap m) (X₀ : K.In h₀) (N : News h₀ L s.heap [(e, excObj C t none .none)]) (hself : m "self" = some (.ref e)) (hfv : m f = some u)
    (ht : takerIn K C f = some none) (hka : scope.names.lookup ("self" : Str) = some .local) (hkf : scope.names.lookup f = some .local) (hdb : (f == ("__debug__" : Str)) = false) (hk : scope.kind = .function)
    (hsw : swapsWith (.Name f p8) (some (.Attribute (.Name "self" p6) f p7)) p9.line (ksEnv qual scope L fI (.ref cda) cc) = pure false)
    (h : ∀ h' dx tk, Fr h₀ L h' m → h'.get? e = some (excObj C t (some dx) .none) → h₀.get? dx = none → dx ≠ L → dx ≠ e → h'.Ns1 dx (fun y => if y = f then some u else none) → Q .next { s with heap := h', toks := tk }) :
    wpAny (model prog w) A (exec (iniF f p6 p7 p8 p9) (ksEnv qual scope L fI (.ref cda) cc)) Q E s := by
  refine plainObj_wpAny_Assign_Attribute ?_ hsw
  refine wpAny_Name (wpAny_loadName_local hk hkf F.ns hfv ?_) hdb
  refine wpAny_Name (wpAny_loadName_local hk hka F.ns hself ?_) (by decide)
  refine set_exc0 T.SF F X₀ N (by simp) T.sa T.ov ht T.hd rfl (.head (by simp)) (by show 1 ≤ 1000; decide) fun dx h' F' N' l => ?_
  have n1 := N' (dx, _) (List.mem_cons_self ..)
  have n2 := N' (e, excObj C t (some dx) .none) (by simp)
  have l1 := l (e, excObj C t none .none) (by simp)
  exact h h' dx _ F' n2.1 n1.2.2 n1.2.1 (Nat.ne_of_gt l1) (one_ns1 n1.1)
/-- the def __init__ of such a class, as the written part has it -/
structure IniC (prog : Program) (K : Frag) (mg : Str → Option Value) (C : Addr) (f : Str) (B i newId : String) (bmB : List Value) (fI cc cda : Addr) (qual txt file : Str) (params : Arguments) (scope : Scope) (p0 p1 p2 p3 p4 p5 p6 p7 p8 p9 : Pos) (j : Nat) (ar : Arg) : Prop where
  T : SupC K C B i newId bmB
  hi : findIn K (.ref C) "__init__" = some (some (.ref fI))
  ty : typeIn K (.ref fI) = some (.type "function")
  fn : ∃ oc od kV doc pm an ct osl, K.lookup fI = some ⟨oc, od, .func (ksFn "__init__" qual params [iniS txt p0 p1 p2 p3 p4 p5 j, iniF f p6 p7 p8 p9] scope .none kV doc pm an (.ref cda) ct cc), osl⟩
  code : ∃ ccl cdd vs ccs tf, K.lookup cda = some ⟨ccl, cdd, .fields vs, ccs⟩ ∧ vs[2]? = some (.str file tf)
  cell : ∃ cl cld csl, K.lookup cc = some ⟨cl, cld, .cell (some (.ref C)), csl⟩
  cd : codeIn K (.ref cda) qual = true
  hp : (params.posonlyargs ++ params.args).head? = some ar
  har : ar.arg = "self"
  file_ : ((prog.main.file : Str) == file) = true
  top : (prog.main.scope.names.lookup ("super" : Str)).isSome = false
  sup : mg "super" = none
  hks : scope.names.lookup ("super" : Str) = some .globalImplicit
  hkc : scope.names.lookup ("__class__" : Str) = some .free
  hka : scope.names.lookup ("self" : Str) = some .local
  hkf : scope.names.lookup f = some .local
  hns : (f == ("self" : Str)) = false
  hdb : (f == ("__debug__" : Str)) = false
  hk : scope.kind = .function
  hcell : ∀ x ∈ scope.names, x.2 ≠ .cell
  hco : scope.isCoroutine = false
  hgen : scope.isGenerator = false
  ht : takerIn K C f = some none
  hev : ∀ L, ∃ pl, eval (.Call (.Attribute (.Call (.Name "super" p0) [] [] p1) "__init__" p2) [.Constant (.str txt) j p3] [] p4) (ksEnv qual scope L fI (.ref cda) cc) = (do
      let ov ← attributeBase (.Call (.Name "super" p0) [] [] p1) "__init__" (ksEnv qual scope L fI (.ref cda) cc) (eval (.Call (.Name "super" p0) [] [] p1) (ksEnv qual scope L fI (.ref cda) cc))
      standAt p2.atName
      let (f, first) ← holding [ov] (getMethod ov "__init__" pl)
      callWith p4 f first (backTo p4 (starEach [.Constant (.str txt) j p3] (ksEnv qual scope L fI (.ref cda) cc))) [])
  hsw : ∀ L, swapsWith (.Name f p8) (some (.Attribute (.Name "self" p6) f p7)) p9.line (ksEnv qual scope L fI (.ref cda) cc) = pure false
  hbind : ∀ (kV doc pm : Value) (an : Option Addr) (ct a b : Value), bindArgs (ksFn "__init__" qual params [iniS txt p0 p1 p2 p3 p4 p5 j, iniF f p6 p7 p8 p9] scope .none kV doc pm an (.ref cda) ct cc) ⟨[a, b], []⟩ = pure [(("self" : Str), a), (f, b)]
  hbindK : ∀ (kV doc pm : Value) (an : Option Addr) (ct a b : Value), bindArgs (ksFn "__init__" qual params [iniS txt p0 p1 p2 p3 p4 p5 j, iniF f p6 p7 p8 p9] scope .none kV doc pm an (.ref cda) ct cc) ⟨[a], [(f, b)]⟩ = pure [(("self" : Str), a), (f, b)]
section
variable {p0 p1 p2 p3 p4 p5 p6 p7 p8 p9 : Pos} {j : Nat} {ar : Arg} {qual txt file : Str}
theorem sup_initA (IC : IniC prog K mg C f B i newId bmB fI cc cda qual txt file params scope p0 p1 p2 p3 p4 p5 p6 p7 p8 p9 j ar) {args : Args} (hbA : ∀ (kV doc pm : Value) (an : Option Addr) (ct : Value), bindArgs (ksFn "__init__" qual params [iniS txt p0 p1 p2 p3 p4 p5 j, iniF f p6 p7 p8 p9] scope .none kV doc pm an (.ref cda) ct cc) args = pure [(("self" : Str), .ref e), (f, u)]) (hroom : A.depth < recursionLimit) (M : Mod K mg base) (bk : ∀ b o, base.get? b = some o → s.heap.get? b = some o) (bn : base.get? e = none)
    (he : s.heap.get? e = some (excObj C t none .none))
    (h : ∀ h' dx t' tk, (∀ b o, b ≠ e → s.heap.get? b = some o → h'.get? b = some o) → h'.get? e = some (excObj C t' (some dx) .none) → s.heap.get? dx = none → dx ≠ e → h'.Ns1 dx (fun y => if y = f then some u else none) → R (.ok (.ret .none)) { s with heap := h', toks := tk }) :
    codeAny (model prog w) A (.call (.ref fI) args) R s := by
  obtain ⟨oc, od, kV, doc, pm, an, ct, osl, hfn⟩ := IC.fn
  obtain ⟨ccl, cdd, vs, ccs, tf, hcode, hvs⟩ := IC.code
  obtain ⟨cl, cld, csl, hcell⟩ := IC.cell
  obtain ⟨mb, hmb, hbb⟩ := M.blt
  have X : K.In s.heap := M.kin.keeps bk
  have k0 : ∀ b o, (hideAll s.heap [e]).get? b = some o → s.heap.get? b = some o := fun b o => of_hideAll [e]
  have kb : ∀ b o, base.get? b = some o → (hideAll s.heap [e]).get? b = some o := fun b o z => hideAll_get [e] (bk b o z) (by
    rw [List.mem_singleton]
    intro y
    rw [y, bn] at z
    cases z)
  refine ks_codeAny_call_defAt (fd := ksFn "__init__" qual params [iniS txt p0 p1 p2 p3 p4 p5 j, iniF f p6 p7 p8 p9] scope .none kV doc pm an (.ref cda) ct cc) (body := [iniS txt p0 p1 p2 p3 p4 p5 j, iniF f p6 p7 p8 p9]) (binds := [(("self" : Str), .ref e), (f, u)]) hroom (X _ _ hfn) rfl (M.nolimit.keeps bk) (codeRec_of X IC.cd) rfl
    (BindsTo.of_eq (hbA ..)) IC.hcell (fun y hy => ?_) (fun h₁ hns hk₁ => ?_) IC.hco IC.hgen IC.hk
  · rcases List.mem_cons.mp hy with rfl | hy
    · exact IC.hka
    · rw [List.mem_singleton.mp hy]
      exact IC.hkf
  have F : Fr (hideAll s.heap [e]) s.heap.objs.size h₁ _ := ⟨hns, fun b o z => hk₁ b o (k0 b o z), Nat.le_of_eq (hideAll_size _ _)⟩
  have hes := Heap.lt_size he
  have N : News (hideAll s.heap [e]) s.heap.objs.size h₁ [(e, excObj C t none .none)] := fun p hp => by
    rw [List.mem_singleton] at hp
    subst hp
    exact ⟨hk₁ _ _ he, Nat.ne_of_lt hes, hideAll_none [e] (by simp)⟩
  have X₀ : K.In (hideAll s.heap [e]) := M.kin.keeps kb
  have ms : (fun x => ([(("self" : Str), Value.ref e), (f, u)] : List (Str × Value)).reverse.lookup x) ("self" : Str) = some (.ref e) := by
    show ([(f, u), (("self" : Str), Value.ref e)] : List (Str × Value)).lookup ("self" : Str) = _
    have : (("self" : Str) == f) = false := by
      rw [← IC.hns]
      exact BEq.comm
    simp [List.lookup, this]
  have mf : (fun x => ([(("self" : Str), Value.ref e), (f, u)] : List (Str × Value)).reverse.lookup x) f = some u := by
    show ([(f, u), (("self" : Str), Value.ref e)] : List (Str × Value)).lookup f = _
    simp [List.lookup]
  refine ks_wpAt_execs_cons ?_
  refine ini_super (body := [iniS txt p0 p1 p2 p3 p4 p5 j, iniF f p6 p7 p8 p9]) IC.T F X₀ (M.glob.keeps kb) (hmb.keeps kb) ((hbb _ (by decide)).trans (by first | exact PyProof.Rows.Boot.«super» | kernel_rfl | rfl)) IC.sup N ms hfn IC.hp IC.har hcode hvs IC.file_ IC.top hcell IC.hks IC.hkc IC.hka IC.hk (IC.hev _) (fun h2 t' tk F2 N2 => ?_)
  refine ks_wpAt_execs_cons ?_
  refine wpAt_of_wpAny (ini_store IC.T F2 X₀ N2 ms mf IC.ht IC.hka IC.hkf IC.hdb IC.hk (IC.hsw _) (fun h3 dx tk3 F3 e3 d0 dL de n3 => ?_))
  refine wpAt_of_wpAny (wpAny_execs_nil ?_)
  refine h h3 dx t' _ (fun b o hb z => F3.keep b o (hideAll_get [e] z (by simpa using hb))) e3 ?_ de n3
  cases q : s.heap.get? dx with
  | none => rfl
  | some o =>
    have := hideAll_get [e] q (by simpa using de)
    rw [d0] at this
    cases this
theorem sup_init (IC : IniC prog K mg C f B i newId bmB fI cc cda qual txt file params scope p0 p1 p2 p3 p4 p5 p6 p7 p8 p9 j ar) (hroom : A.depth < recursionLimit) (M : Mod K mg base) (bk : ∀ b o, base.get? b = some o → s.heap.get? b = some o) (bn : base.get? e = none)
    (he : s.heap.get? e = some (excObj C t none .none))
    (h : ∀ h' dx t' tk, (∀ b o, b ≠ e → s.heap.get? b = some o → h'.get? b = some o) → h'.get? e = some (excObj C t' (some dx) .none) → s.heap.get? dx = none → dx ≠ e → h'.Ns1 dx (fun y => if y = f then some u else none) → R (.ok (.ret .none)) { s with heap := h', toks := tk }) :
    codeAny (model prog w) A (.call (.ref fI) ⟨[.ref e, u], []⟩) R s := sup_initA IC (fun _ _ _ _ _ => IC.hbind ..) hroom M bk bn he h
theorem sup_initK (IC : IniC prog K mg C f B i newId bmB fI cc cda qual txt file params scope p0 p1 p2 p3 p4 p5 p6 p7 p8 p9 j ar) (hroom : A.depth < recursionLimit) (M : Mod K mg base) (bk : ∀ b o, base.get? b = some o → s.heap.get? b = some o) (bn : base.get? e = none)
    (he : s.heap.get? e = some (excObj C t none .none))
    (h : ∀ h' dx t' tk, (∀ b o, b ≠ e → s.heap.get? b = some o → h'.get? b = some o) → h'.get? e = some (excObj C t' (some dx) .none) → s.heap.get? dx = none → dx ≠ e → h'.Ns1 dx (fun y => if y = f then some u else none) → R (.ok (.ret .none)) { s with heap := h', toks := tk }) :
    codeAny (model prog w) A (.call (.ref fI) ⟨[.ref e], [(f, u)]⟩) R s := sup_initA IC (fun _ _ _ _ _ => IC.hbindK ..) hroom M bk bn he h
end
end
/-! ### C(e), raised -/
/-- a class whose instances are made so, its one field f -/
def ExI (prog : Program) (K : Frag) (mg : Str → Option Value) (C : Addr) (f : Str) : Prop :=
  ∃ (B i newId : String) (bmB : List Value) (fI cc cda : Addr) (qual txt file : Str) (params : Arguments) (scope : Scope) (p0 p1 p2 p3 p4 p5 p6 p7 p8 p9 : Pos) (j : Nat) (ar : Arg), IniC prog K mg C f B i newId bmB fI cc cda qual txt file params scope p0 p1 p2 p3 p4 p5 p6 p7 p8 p9 j ar
structure ExC1 (prog : Program) (K : Frag) (mg : Str → Option Value) (C : Addr) (f : Str) : Prop where
  ini : ExI prog K mg C f
  kC : keepIn K (.ref C) = true
  exC : subIn K (.ref C) (.type "BaseException") = some true
  tyC : typeIn K (.ref C) = some (.type "type")
end DVX
end
section
set_option Elab.async false
set_option linter.all false
set_option maxRecDepth 100000
set_option maxHeartbeats 4000000
/-! except (A, B, ..) as error; the caught exception stays readable behind the try -/
namespace DVX
open PySem PySem.Spec PySem.Calls PyProof.Rows L2 PySem.W
/-! ### what is caught is kept in sight -/
def CauO (cls : Value) (d : Option Addr) (a : Addr) : HO := .ext fun h => ∃ (oe : Obj) (vs : Array Value), h.get? a = some oe ∧ Zc cls d oe ∧ oe.data = .fields vs
theorem cauO_ok {P : Program} {w : World} {H : Hp} {h : Heap} {a : Addr} {cls : Value} {d : Option Addr} {oe : Obj} {vs : Array Value} (g1 : h.get? a = some oe) (g2 : Zc cls d oe) (g3 : oe.data = .fields vs) : ObjOk P w H h a (CauO cls d a) :=
  ⟨⟨oe, vs, g1, g2, g3⟩, ⟨oe, g1⟩, fun _ _ ⟨o2, v2, k1, k2⟩ kk => ⟨o2, v2, kk o2 k1, k2⟩⟩
theorem cauO_at {P : Program} {w : World} {H : Hp} {h : Heap} {a : Addr} {cls : Value} {d : Option Addr} (hok : HOk P w H h) (ha : H a = some (CauO cls d a)) : ∃ (oe : Obj) (vs : Array Value), h.get? a = some oe ∧ Zc cls d oe ∧ oe.data = .fields vs := by
  have x : ObjOk P w H h a (.ext fun h => ∃ (oe : Obj) (vs : Array Value), h.get? a = some oe ∧ Zc cls d oe ∧ oe.data = .fields vs) := hok a _ ha
  exact x.1
/-! ### a tuple of classes, named -/
end DVX
end
section
set_option Elab.async false
set_option linter.all false
set_option maxRecDepth 100000
set_option maxHeartbeats 4000000
/-! isinstance and fields of an exception that is told -/
namespace DVX
open PySem PySem.Spec PySem.Calls PyProof.Rows L2 PySem.W
/-- what a class of exceptions must say -/
structure ExK (K : Frag) (C : Addr) : Prop where
  cl : (clsIn K C).isSome = true
  ga : findIn K (.ref C) "__getattribute__" = some (some (.builtin "BaseException.__getattribute__"))
  gg : findIn K (.ref C) "__getattr__" = some none
  exC : subIn K (.ref C) (.type "BaseException") = some true
  hd : hasDictIn K C = true
  ca : findIn K (.ref C) "__class__" = some (some (.builtin "object.__class__"))
  cn : specialIn K (.builtin "object.__class__") "__get__" = some (some (.builtin "getset_descriptor.__get__"))
  ct : takesIn K (.builtin "object.__class__") = some true
  cm : mroIn K C (.type "object") = some true
/-- told, with its dict -/
def ToldX (H : Hp) (a C : Addr) (dx : Option Addr) : Prop := H a = some (CauO (.ref C) dx a) ∧ ∀ dd, dx = some dd → ∃ fs, H dd = some (.xd fs)
section
variable {X : Cx} {pins : List (Addr × Obj)} {σ : L2.St} {H : Hp} {s : Shared}
theorem told_inst {a C : Addr} {dx : Option Addr} (I : Inv X pins σ H s) (t : ToldX H a C dx) : ∃ oe od, InstAt s.heap a oe C od := by
  obtain ⟨t1, t2⟩ := t
  obtain ⟨oe, vs, g1, g2, g3⟩ := cauO_at I.hok t1
  obtain ⟨oc, oda, odt, osl⟩ := oe
  obtain ⟨e1, e2⟩ := g2
  dsimp only at e1 e2 g3
  subst e1 e2 g3
  cases oda with
  | none => exact ⟨_, none, g1, rfl, rfl, trivial⟩
  | some dd =>
    obtain ⟨fs, h1⟩ := t2 dd rfl
    obtain ⟨mA, hns, _⟩ : ∃ mA, s.heap.Ns1 dd mA ∧ ∀ f, RelO (fs.lookup f) (mA f) := I.hok dd _ h1
    obtain ⟨o, _, _, ho, _⟩ := hns
    exact ⟨_, some o, g1, rfl, rfl, ho⟩
theorem kit_told {K : Frag} {C x : Addr} {oe : Obj} {od : Option Obj} (T : ExK K C) : KitX K (.ref x) (.ref C) (fun h => InstAt h x oe C od) := kitx_exc T.cl T.ga T.gg T.exC T.ca T.cn T.ct T.cm
/-- isinstance(e, c) -/
def rIsX (K : Frag) : List V → Hp → VK → Prop := fun xs H Q => ∃ (a C : Addr) (dx : Option Addr) (c : V) (cv : Value) (b : Bool), xs = [.ref a, c] ∧ (∀ u, RelV c u → u = cv) ∧ ToldX H a C dx ∧ ExK K C ∧ kitOne K (.ref C) cv = some b ∧ Q (.bl b) H
theorem call_isX : CallR X (.builtin "isinstance") (rIsX X.K) := by
  intro pins s σ H xs us Q I r h
  obtain ⟨a, C, dx, c, cv, b, rfl, hcv, t, T, e, q⟩ := h
  cases r with
  | cons rx rr =>
    cases rr with
    | cons rt rr =>
      cases rr
      cases rx
      have ec := hcv _ rt
      subst ec
      obtain ⟨oe, od, J⟩ := told_inst I t
      exact kia_one (kit_told T) I.kIn J e (fun z => nomatch z) fun tk => ⟨.bl b, H, I.kept (t' := tk) fun _ _ z => z, rfl, q⟩
/-- isinstance(e, (c, ..)) -/
def rIsXT (K : Frag) : List V → Hp → VK → Prop := fun xs H Q => ∃ (a C tp : Addr) (dx : Option Addr) (cs : List V) (b : Bool), xs = [.ref a, .ref tp] ∧ ToldX H a C dx ∧ ExK K C ∧ H tp = some (.tup cs) ∧ (∀ us, Vals cs us → kitAny K (.ref C) us = some b) ∧ Q (.bl b) H
theorem call_isXT : CallR X (.builtin "isinstance") (rIsXT X.K) := by
  intro pins s σ H xs us Q I r h
  obtain ⟨a, C, tp, dx, cs, b, rfl, t, T, ht, e, q⟩ := h
  cases r with
  | cons rx rr =>
    cases rr with
    | cons rt rr =>
      cases rr
      cases rx
      cases rt
      obtain ⟨oe, od, J⟩ := told_inst I t
      obtain ⟨its, rv, pl, hz⟩ := I.tuple (.of ht)
      obtain ⟨o, ho, hc, n, hd⟩ := pl
      obtain ⟨oc, od', odt, osl⟩ := o
      dsimp only at hc hd
      subst hc hd
      exact kia_tup (kit_told T) I.kIn J ho (e _ rv) (fun z => nomatch z) fun tk => ⟨.bl b, H, I.kept (t' := tk) fun _ _ z => z, rfl, q⟩
/-- e.f -/
def tXfd (K : Frag) (f : Str) (te : TE) : TE := fun σ H Q => te σ H fun x H1 => ∃ (a C dd : Addr) (fs : List (Str × V)) (v : V), x = .ref a ∧ H1 a = some (CauO (.ref C) (some dd) a) ∧ H1 dd = some (.xd fs) ∧ ExK K C ∧ findIn K (.ref C) f = some none ∧ fs.lookup f = some v ∧ Q v H1
theorem pe_xfd {e : Expr} {te : TE} {pos : Pos} {n : Str} (he : PE X e te) (hb : attributeBase e n X.env (eval e X.env) = eval e X.env := by rfl) : PE X (.Attribute e n pos) (tXfd X.K n te) := by
  refine ⟨fun pins s σ H Q I h => ?_⟩
  refine attr_of hb (thn (he.run pins s σ H _ I h) fun u s1 hh => ?_)
  obtain ⟨x, H1, I1, rx, a, C, dd, fs, v, ex, t1, t2, T, hno, l, q⟩ := hh
  subst ex
  obtain rfl : u = Value.ref a := rx
  obtain ⟨oe, vs, g1, g2, g3⟩ := cauO_at I1.hok t1
  obtain ⟨mA, hns, hr⟩ : ∃ mA, s1.heap.Ns1 dd mA ∧ ∀ f, RelO (fs.lookup f) (mA f) := I1.hok dd _ t2
  obtain ⟨od, ho, hl⟩ := lookIn_ns hns
  obtain ⟨u, hu, ru⟩ := RelO.some_of (v := v) (o := mA n) (by rw [← l]; exact hr n)
  have J : InstAt s1.heap a oe C (some od) := ⟨g1, g2.1, by unfold notCls; rw [g3] <;> rfl, by rw [g2.2]; exact ho⟩
  exact HandSPX.exc_get I1.kIn J T.ga T.gg T.exC (findObj_own T.hd hno rfl (by rw [hl, hu])) (handed_of ru) ⟨v, H1, I1.tok _, ru, q⟩
end
end DVX
end
section
set_option Elab.async false
set_option linter.all false
set_option maxRecDepth 100000
set_option maxHeartbeats 4000000
/-! an exception made and held; made by name; classes without a field -/
namespace DVX
open PySem PySem.Spec PySem.Calls PyProof.Rows L2 PySem.W
section
variable {M : Model} {prog : Program} {w : World} {A : Around} {E : Value → Shared → Prop} {R : Result → Shared → Prop} {hp : Heap} {g : Array GenState} {d : Drawn} {t : Nat} {os : OsState}
variable {cn q : Str} {C ca fI : Addr} {bs mro bmB : List Value} {hdct : Bool} {sn : List Str} {sub : List Value} {ab : Bool} {col : Option Bool} {dd : Option Addr} {k0 k1 k2 k3 k5 : Option Value} {B nId iId : String}
abbrev clO (cn q : Str) (C ca : Addr) (bs mro : List Value) (hdct : Bool) (sn : List Str) (sub : List Value) (ab : Bool) (col : Option Bool) (dd : Option Addr) (k0 k1 k2 k3 k5 : Option Value) (nId : String) : Obj := excClassObj cn q C ca bs mro hdct sn sub ab col dd k0 k1 k2 k3 k5 nId
theorem has_base (F : ExcBaseFacts B nId iId bmB) (same : ∀ X : String, mro.contains (.type X) = bmB.contains (.type X)) : (Value.ref C :: mro).contains (.type B) = true := by
  rw [List.contains_cons, same, F.hasB, Bool.or_true]
/-- what `__new__` looks at ahead: names do not matter -/
theorem newK_check (F : ExcBaseFacts B nId iId bmB) (same : ∀ X : String, mro.contains (.type X) = bmB.contains (.type X)) {args : List Value} {kw : List (Str × Value)} {Q : Unit → Shared → Prop}
    (cls : hp.get? C = some (clO cn q C ca bs mro hdct sn sub ab col dd k0 k1 k2 k3 k5 nId)) (goes : Q () ⟨hp, g, d, t, os⟩) :
    wpAny M A (checkBuiltinCall nId ⟨.ref C :: args, kw⟩) Q E ⟨hp, g, d, t, os⟩ := by
  have yes := has_base (C := C) F same
  have ns := F.noStar
  simp only [checkBuiltinCall, F.newKind, F.newSplit, F.newRow]
  repeat (first
    | refine wpAny_loadPart_at cls ?_
    | (refine wpAny_isSubtype_exc cls ?_; rw [yes])
    | refine wpAny_staticBase_exc cls ?_
    | refine wpAny_madeBy_exc cls ?_
    | simp only [bne_self_eq_false, Bool.false_eq_true, if_false]
    | wp_step)
  exact goes
/-- `__new__` itself -/
theorem newK_run (F : ExcBaseFacts B nId iId bmB) (same : ∀ X : String, mro.contains (.type X) = bmB.contains (.type X)) {args : List Value} {kw : List (Str × Value)}
    (cls : hp.get? C = some (clO cn q C ca bs mro hdct sn sub ab col dd k0 k1 k2 k3 k5 nId)) (few : args.length ≤ sizeLine)
    (goes : R (.ok (.ret (.ref (hp.objs.size + 1)))) ⟨(hp.push (kdv_tup args)).push (PySem.HandSPX.excO C hp.objs.size), g, d, t, os⟩) :
    codeAny (model prog w) A (.builtin nId ⟨.ref C :: args, kw⟩) R ⟨hp, g, d, t, os⟩ := by
  have en := F.ends
  have yes := has_base (C := C) F same
  have noA : (Value.ref C :: mro).contains (.type "AttributeError") = false := by
    rw [List.contains_cons, same, F.noAttr]; rfl
  have noN : (Value.ref C :: mro).contains (.type "NameError") = false := by
    rw [List.contains_cons, same, F.noName]; rfl
  refine codeAny_builtinAt F.entry ?_
  unfold Builtin.«BaseException.__new__»
  refine _root_.PySem.wpAt_bind ?_
  show _root_.PySem.wpAt _ _ _ (stack >>= _) _ _ _
  refine _root_.PySem.wpAt_bind (_root_.PySem.wpAt_stack fun p below => _root_.PySem.wpAt_of_wpAny ?_)
  wp_walk
  refine _root_.PySem.wpAt_of_wpAny ?_
  rw [F.owner]
  repeat (first
    | with_reducible refine wpAny_madeHere_exc F.canon cls ?_
    | with_reducible refine wpAny_loadPart_at cls ?_
    | (with_reducible refine wpAny_isSubtype_exc cls ?_
       first | rw [yes] | rw [noA] | rw [noN])
    | wp_step)
  show R _ _
  rw [Heap.size_push]
  exact goes
/-- `type.__call__` -/
theorem callK_tree (F : ExcBaseFacts B nId iId bmB) (same : ∀ X : String, mro.contains (.type X) = bmB.contains (.type X)) {args : List Value} {kw : List (Str × Value)} {Q : Fin → Shared → Prop}
    (cls : hp.get? C = some (clO cn q C ca bs mro hdct sn sub ab col dd k0 k1 k2 k3 k5 nId))
    (ini : W.Looks (model prog w) hp (typeLookup (.ref C) "__init__") (some (.ref fI))) (bnd : ∀ self, W.Looks (model prog w) hp (bindSpecial (.ref fI) self) (.ref fI, [self])) (few : args.length ≤ sizeLine)
    (goes : codeAny (model prog w) A (.call (.ref fI) ⟨.ref (hp.objs.size + 1) :: args, kw⟩)
      (fun r s' => match r with | .ok (.ret v) => v = .none ∧ Q (.done (.ret (.ref (hp.objs.size + 1)))) s' | .ok _ => False | .error e => E e s')
      ⟨(hp.push (kdv_tup args)).push (PySem.HandSPX.excO C hp.objs.size), g, d, t, os⟩) :
    wpAny (model prog w) A (Builtin.«type.__call__» ⟨.ref C :: args, kw⟩) Q E ⟨hp, g, d, t, os⟩ := by
  repeat (first
    | with_reducible refine wpAny_loadPart_at cls ?_
    | with_reducible refine wpAny_madeBy_exc cls ?_
    | wp_step)
  refine codeAny_call_builtin_code (Code.quiet_builtin _ F.quiet) (newK_check F same cls ?_)
  refine newK_run F same cls few ?_
  show wpAny _ _ _ _ _ _
  have kk : ∀ b o, hp.get? b = some o → ((hp.push (kdv_tup args)).push (PySem.HandSPX.excO C hp.objs.size)).get? b = some o := fun b o z =>
    Heap.get?_push_of_some _ (Heap.get?_push_of_some _ z)
  have cls2 := kk _ _ cls
  have at_ : ((hp.push (kdv_tup args)).push (PySem.HandSPX.excO C hp.objs.size)).get? (hp.objs.size + 1) = some (PySem.HandSPX.excO C hp.objs.size) := by heap_get
  have self : (Value.ref C :: mro).contains (.ref C) = true := by simp
  have i1 := ini.keeps kk
  have b1 := (bnd (.ref (hp.objs.size + 1))).keeps kk
  unfold isInstance
  repeat (first
    | with_reducible refine wpAny_loadPart_at at_ ?_
    | (with_reducible refine wpAny_isSubtype_exc cls2 ?_
       rw [self])
    | wp_step)
  show wpAny _ _ (typeLookup (.ref C) _) _ _ _
  refine i1.at ?_
  refine wpAny_holding (wpAny_bind (b1.at ?_))
  refine wpAny_bind (wpAny_call (codeAny_mono goes fun r s' z => ?_))
  rcases r with e | (v | _ | _ | _)
  all_goals try first | exact z | exact z.elim
  obtain ⟨rfl, z⟩ := z
  first
    | exact wpAny_pure (wpAny_pure z)
    | (wp_walk; exact z)
theorem checkK_type {args : List Value} {kw : List (Str × Value)} {Q : Unit → Shared → Prop} (cls : hp.get? C = some (clO cn q C ca bs mro hdct sn sub ab col dd k0 k1 k2 k3 k5 nId)) (goes : Q () ⟨hp, g, d, t, os⟩) :
    wpAny M A (checkBuiltinCall "type.__call__" ⟨.ref C :: args, kw⟩) Q E ⟨hp, g, d, t, os⟩ := by
  have f3 := tc_sub
  have ty : (⟨hp, g, d, t, os⟩ : Shared).TypeIs (.ref C) "type" := ⟨_, cls, rfl⟩
  simp only [checkBuiltinCall, tc_kind, tc_split]
  repeat (any_goals (first
    | assumption
    | with_reducible refine wpAny_loadPart_at cls ?_
    | with_reducible refine wpAny_onRaise ?_
    | with_reducible refine wpAny_map ?_
    | wp_step))
/-- C(.., k = v), an own class of exceptions with an own `__init__` -/
theorem callK_own (F : ExcBaseFacts B nId iId bmB) (same : ∀ X : String, mro.contains (.type X) = bmB.contains (.type X)) {args : List Value} {kw : List (Str × Value)}
    (cls : hp.get? C = some (clO cn q C ca bs mro hdct sn sub ab col dd k0 k1 k2 k3 k5 nId))
    (ini : W.Looks (model prog w) hp (typeLookup (.ref C) "__init__") (some (.ref fI))) (bnd : ∀ self, W.Looks (model prog w) hp (bindSpecial (.ref fI) self) (.ref fI, [self])) (few : args.length ≤ sizeLine)
    (goes : codeAny (model prog w) (A.under (.builtin "type.__call__" ⟨.ref C :: args, kw⟩)) (.call (.ref fI) ⟨.ref (hp.objs.size + 1) :: args, kw⟩) (W.InitBack (hp.objs.size + 1) R)
      ⟨(hp.push (kdv_tup args)).push (PySem.HandSPX.excO C hp.objs.size), g, d, t, os⟩) :
    codeAny (model prog w) A (.call (.ref C) ⟨args, kw⟩) R ⟨hp, g, d, t, os⟩ := by
  have f1 := tc_lookup
  have f2 := tc_bind (.ref C)
  have ty : (⟨hp, g, d, t, os⟩ : Shared).TypeIs (.ref C) "type" := ⟨_, cls, rfl⟩
  refine codeAny_of_tree ?_
  show wpAny _ _ (callAny (.ref C) _) _ _ _
  repeat (any_goals (first
    | assumption
    | with_reducible refine wpAny_loadPart_at cls ?_
    | wp_step))
  refine ⟨rfl, ?_⟩
  refine codeAny_call_builtin_at (Code.quiet_builtin _ (by decide +kernel)) entry_typeCall (checkK_type cls (callK_tree F same cls ini bnd few ?_))
  refine codeAny_mono goes fun r s' z => ?_
  rcases r with e | (v | _ | _ | _) <;> exact z
end
/-! ### the class without a field -/
structure IniC0 (prog : Program) (K : Frag) (mg : Str → Option Value) (C : Addr) (B i newId : String) (bmB : List Value) (fI cc cda : Addr) (qual txt file : Str) (params : Arguments) (scope : Scope) (p0 p1 p2 p3 p4 p5 : Pos) (j : Nat) (ar : Arg) : Prop where
  T : SupC K C B i newId bmB
  hi : findIn K (.ref C) "__init__" = some (some (.ref fI))
  ty : typeIn K (.ref fI) = some (.type "function")
  fn : ∃ oc od kV doc pm an ct osl, K.lookup fI = some ⟨oc, od, .func (ksFn "__init__" qual params [iniS txt p0 p1 p2 p3 p4 p5 j] scope .none kV doc pm an (.ref cda) ct cc), osl⟩
  code : ∃ ccl cdd vs ccs tf, K.lookup cda = some ⟨ccl, cdd, .fields vs, ccs⟩ ∧ vs[2]? = some (.str file tf)
  cell : ∃ cl cld csl, K.lookup cc = some ⟨cl, cld, .cell (some (.ref C)), csl⟩
  cd : codeIn K (.ref cda) qual = true
  hp : (params.posonlyargs ++ params.args).head? = some ar
  har : ar.arg = "self"
  file_ : ((prog.main.file : Str) == file) = true
  top : (prog.main.scope.names.lookup ("super" : Str)).isSome = false
  sup : mg "super" = none
  hks : scope.names.lookup ("super" : Str) = some .globalImplicit
  hkc : scope.names.lookup ("__class__" : Str) = some .free
  hka : scope.names.lookup ("self" : Str) = some .local
  hk : scope.kind = .function
  hcell : ∀ x ∈ scope.names, x.2 ≠ .cell
  hco : scope.isCoroutine = false
  hgen : scope.isGenerator = false
  hev : ∀ L, ∃ pl, eval (.Call (.Attribute (.Call (.Name "super" p0) [] [] p1) "__init__" p2) [.Constant (.str txt) j p3] [] p4) (ksEnv qual scope L fI (.ref cda) cc) = (do
      let ov ← attributeBase (.Call (.Name "super" p0) [] [] p1) "__init__" (ksEnv qual scope L fI (.ref cda) cc) (eval (.Call (.Name "super" p0) [] [] p1) (ksEnv qual scope L fI (.ref cda) cc))
      standAt p2.atName
      let (f, first) ← holding [ov] (getMethod ov "__init__" pl)
      callWith p4 f first (backTo p4 (starEach [.Constant (.str txt) j p3] (ksEnv qual scope L fI (.ref cda) cc))) [])
  hbind : ∀ (kV doc pm : Value) (an : Option Addr) (ct a : Value), bindArgs (ksFn "__init__" qual params [iniS txt p0 p1 p2 p3 p4 p5 j] scope .none kV doc pm an (.ref cda) ct cc) ⟨[a], []⟩ = pure [(("self" : Str), a)]
section
variable {prog : Program} {w : World} {A : Around} {s : Shared} {R : Result → Shared → Prop} {K : Frag} {mg : Str → Option Value} {base : Heap} {C fI cc cda e t : Addr} {B i newId : String} {bmB : List Value}
  {qual txt file : Str} {params : Arguments} {scope : Scope} {p0 p1 p2 p3 p4 p5 : Pos} {j : Nat} {ar : Arg}
theorem sup_init0 (IC : IniC0 prog K mg C B i newId bmB fI cc cda qual txt file params scope p0 p1 p2 p3 p4 p5 j ar) (room : A.depth < recursionLimit) (M : Mod K mg base) (bk : ∀ b o, base.get? b = some o → s.heap.get? b = some o) (bn : base.get? e = none)
    (he : s.heap.get? e = some (excObj C t none .none))
    (h : ∀ h' t' tk, (∀ b o, b ≠ e → s.heap.get? b = some o → h'.get? b = some o) → h'.get? e = some (excObj C t' none .none) → R (.ok (.ret .none)) { s with heap := h', toks := tk }) :
    codeAny (model prog w) A (.call (.ref fI) ⟨[.ref e], []⟩) R s := by
  obtain ⟨oc, od, kV, doc, pm, an, ct, osl, hfn⟩ := IC.fn
  obtain ⟨ccl, cdd, vs, ccs, tf, hcode, hvs⟩ := IC.code
  obtain ⟨cl, cld, csl, hcell⟩ := IC.cell
  obtain ⟨mb, hmb, hbb⟩ := M.blt
  have X : K.In s.heap := M.kin.keeps bk
  have k0 : ∀ b o, (hideAll s.heap [e]).get? b = some o → s.heap.get? b = some o := fun b o => of_hideAll [e]
  have kb : ∀ b o, base.get? b = some o → (hideAll s.heap [e]).get? b = some o := fun b o z => hideAll_get [e] (bk b o z) (by
    rw [List.mem_singleton]
    intro y
    rw [y, bn] at z
    cases z)
  refine ks_codeAny_call_defAt (fd := ksFn "__init__" qual params [iniS txt p0 p1 p2 p3 p4 p5 j] scope .none kV doc pm an (.ref cda) ct cc) (body := [iniS txt p0 p1 p2 p3 p4 p5 j]) (binds := [(("self" : Str), .ref e)]) room (X _ _ hfn) rfl (M.nolimit.keeps bk) (codeRec_of X IC.cd) rfl
    (BindsTo.of_eq (IC.hbind ..)) IC.hcell (fun y hy => ?_) (fun h₁ hns hk₁ => ?_) IC.hco IC.hgen IC.hk
  · rw [List.mem_singleton.mp hy]
    exact IC.hka
  have F : Fr (hideAll s.heap [e]) s.heap.objs.size h₁ _ := ⟨hns, fun b o z => hk₁ b o (k0 b o z), Nat.le_of_eq (hideAll_size _ _)⟩
  have hes := Heap.lt_size he
  have N : News (hideAll s.heap [e]) s.heap.objs.size h₁ [(e, excObj C t none .none)] := fun p hp => by
    rw [List.mem_singleton] at hp
    subst hp
    exact ⟨hk₁ _ _ he, Nat.ne_of_lt hes, hideAll_none [e] (by simp)⟩
  have X₀ : K.In (hideAll s.heap [e]) := M.kin.keeps kb
  have ms : (fun x => ([(("self" : Str), Value.ref e)] : List (Str × Value)).reverse.lookup x) ("self" : Str) = some (.ref e) := by
    simp [List.lookup]
  refine ks_wpAt_execs_cons ?_
  refine ini_super (body := [iniS txt p0 p1 p2 p3 p4 p5 j]) IC.T F X₀ (M.glob.keeps kb) (hmb.keeps kb) ((hbb _ (by decide)).trans (by first | exact PyProof.Rows.Boot.«super» | kernel_rfl | rfl)) IC.sup N ms hfn IC.hp IC.har hcode hvs IC.file_ IC.top hcell IC.hks IC.hkc IC.hka IC.hk (IC.hev _) (fun h2 t' tk F2 N2 => ?_)
  refine wpAt_of_wpAny (wpAny_execs_nil ?_)
  refine h h2 t' _ (fun b o hb z => F2.keep b o (hideAll_get [e] z (by simpa using hb))) ?_
  exact (N2 (e, _) (by simp)).1
end
def ExI0 (prog : Program) (K : Frag) (mg : Str → Option Value) (C : Addr) : Prop :=
  ∃ (B i newId : String) (bmB : List Value) (fI cc cda : Addr) (qual txt file : Str) (params : Arguments) (scope : Scope) (p0 p1 p2 p3 p4 p5 : Pos) (j : Nat) (ar : Arg), IniC0 prog K mg C B i newId bmB fI cc cda qual txt file params scope p0 p1 p2 p3 p4 p5 j ar
structure ExC0 (prog : Program) (K : Frag) (mg : Str → Option Value) (C : Addr) : Prop where
  ini : ExI0 prog K mg C
  kC : keepIn K (.ref C) = true
  exC : subIn K (.ref C) (.type "BaseException") = some true
  tyC : typeIn K (.ref C) = some (.type "type")
section
variable {X : Cx} {x f : Str} {C : Addr} {k : Nat} {e : Expr} {te : TE} {p pos : Pos}
/-- how an object is made: what stands behind it -/
theorem made_run {pins : List (Addr × Obj)} {σ : L2.St} {H1 : Hp} {s1 : Shared} {us : List Value} {kw : List (Str × Value)} {y : V} {u : Value} {Q : Value → Shared → Prop} (T : ExC1 X.prog X.K X.mg C f) (hr : Room (k + 1) X.A) (I1 : Inv X pins σ H1 s1) (r1 : RelV y u) (hu : (us = [u] ∧ kw = []) ∨ (us = [] ∧ kw = [(f, u)]))
    (goes : ∀ (a dx : Addr) (h' : Heap) (tk : Nat), (∀ b o, s1.heap.get? b = some o → (hideAll h' [a]).get? b = some o) → s1.heap.get? a = none → s1.heap.get? dx = none → a ≠ dx → (∃ t', h'.get? a = some (excObj C t' (some dx) .none)) →
      Inv X pins σ (upd H1 dx (.xd [(f, y)])) { s1 with heap := hideAll h' [a], toks := tk } → Q (.ref a) { s1 with heap := h', toks := tk }) :
    wpAny (model X.prog X.w) X.A (call (.ref C) us kw) Q X.xe s1 := by
  obtain ⟨B, i, newId, bmB, fI, cc, cda, qual, txt, file, params, scope, p0, p1, p2, p3, p4, p5, p6, p7, p8, p9, j, ar, IC⟩ := T.ini
  obtain ⟨hp, g, dr, tk, os⟩ := s1
  obtain ⟨nm, N', qn, bs, bm, hdct, sn, sub, ab, col, dd, k0, k1, k2, k3, k5, hC, hT⟩ := excInit_of I1.kIn IC.T.q
  have kk : ∀ b o, hp.get? b = some o → ((hp.push (kdv_tup us)).push (PySem.HandSPX.excO C hp.objs.size)).get? b = some o := fun b o z => Heap.get?_push_of_some _ (Heap.get?_push_of_some _ z)
  have hget : ((hp.push (kdv_tup us)).push (PySem.HandSPX.excO C hp.objs.size)).get? (hp.objs.size + 1) = some (excObj C hp.objs.size none .none) := by heap_get
  have hn0 : hp.get? (hp.objs.size + 1) = none := by
    cases q : hp.get? (hp.objs.size + 1) with
    | none => rfl
    | some o => exact absurd (Heap.lt_size q) (Nat.not_lt.mpr (Nat.le_succ _))
  have hbn : X.base.get? (hp.objs.size + 1) = none := by
    cases q : X.base.get? (hp.objs.size + 1) with
    | none => rfl
    | some o =>
      have := I1.bk _ _ q
      rw [hn0] at this
      cases this
  have few : us.length ≤ sizeLine := by
    rw [sizeLine_eq]
    rcases hu with ⟨rfl, _⟩ | ⟨rfl, _⟩
    · show 1 ≤ _; decide
    · exact Nat.zero_le _
  have fin : ∀ (R : Result → Shared → Prop), R = W.InitBack (hp.objs.size + 1) (fun r s' => match r with | .ok (.ret v) => Q v s' | .ok _ => False | .error e => X.xe e s') →
      ∀ h' dx t' tk', (∀ b o, b ≠ hp.objs.size + 1 → ((hp.push (kdv_tup us)).push (PySem.HandSPX.excO C hp.objs.size)).get? b = some o → h'.get? b = some o) → h'.get? (hp.objs.size + 1) = some (excObj C t' (some dx) .none) →
        ((hp.push (kdv_tup us)).push (PySem.HandSPX.excO C hp.objs.size)).get? dx = none → dx ≠ hp.objs.size + 1 → h'.Ns1 dx (fun y => if y = f then some u else none) → R (.ok (.ret .none)) ⟨h', g, dr, tk', os⟩ := by
    intro R eR h' dx t' tk' keep e' d0 dne hns
    subst eR
    refine ⟨rfl, ?_⟩
    have hdn : hp.get? dx = none := by
      cases q : hp.get? dx with
      | none => rfl
      | some o =>
        have := kk _ _ q
        rw [d0] at this
        cases this
    have kG : ∀ b o, hp.get? b = some o → (hideAll h' [hp.objs.size + 1]).get? b = some o := fun b o z => by
      have hb : b ≠ hp.objs.size + 1 := fun w => by
        rw [w, hn0] at z
        cases z
      exact hideAll_get _ (keep b o hb (kk b o z)) (by simpa using hb)
    refine goes (hp.objs.size + 1) dx h' tk' kG hn0 hdn (Ne.symm dne) ⟨t', e'⟩ ?_
    refine I1.laidN (t' := tk') kG hdn (I1.hok.gone hdn) ?_
    refine ⟨_, hns.at fun o z => hideAll_get _ z (by simpa using dne), fun z => ?_⟩
    show RelO (List.lookup z [(f, y)]) (if z = f then some u else none)
    by_cases c : z = f
    · subst c
      simp only [List.lookup, beq_self_eq_true, if_true]
      exact r1
    · have c' : (z == f) = false := by simpa using c
      simp only [List.lookup, c', if_neg c]
      exact trivial
  have dp : ∀ (u2 : List Value) (kw2 : List (Str × Value)), (X.A.under (.builtin "type.__call__" ⟨.ref C :: u2, kw2⟩)).depth < recursionLimit := fun u2 kw2 => Nat.lt_of_le_of_lt (Nat.le_trans (Nat.le_add_right _ _) (Nat.le_add_right _ _)) (hr.make C u2 kw2).dp
  refine wpAny_call (callK_own IC.T.FB hT hC (looks_findIn I1.kIn IC.hi) (fun self => bind_fn I1.kIn self IC.ty) few ?_)
  rcases hu with ⟨rfl, rfl⟩ | ⟨rfl, rfl⟩
  · exact sup_init (base := X.base) IC (dp _ _) I1.ok.mod (fun b o z => kk b o (I1.bk b o z)) hbn hget (fin _ rfl)
  · exact sup_initK (base := X.base) IC (dp _ _) I1.ok.mod (fun b o z => kk b o (I1.bk b o z)) hbn hget (fin _ rfl)
/-- what is known once it stands -/
def tMk (C : Addr) (f : Str) (te : TE) : TE := fun σ H Q => te σ H fun y H1 => ∀ d a, H1 d = none → upd H1 d (.xd [(f, y)]) a = none → Q (.ref a) (upd (upd H1 d (.xd [(f, y)])) a (CauO (.ref C) (some d) a))
theorem mk_fin {pins : List (Addr × Obj)} {σ : L2.St} {H1 : Hp} {s1 : Shared} {y : V} {Q : VK} (I1 : Inv X pins σ H1 s1) (q1 : ∀ d a, H1 d = none → upd H1 d (.xd [(f, y)]) a = none → Q (.ref a) (upd (upd H1 d (.xd [(f, y)])) a (CauO (.ref C) (some d) a)))
    (a dx : Addr) (h' : Heap) (tk : Nat) (ha : s1.heap.get? a = none) (hdx : s1.heap.get? dx = none) (ne : a ≠ dx) (e' : ∃ t', h'.get? a = some (excObj C t' (some dx) .none)) (J : Inv X pins σ (upd H1 dx (.xd [(f, y)])) { s1 with heap := hideAll h' [a], toks := tk }) :
    ∃ v H2, Inv X pins σ H2 { s1 with heap := h', toks := tk } ∧ RelV v (.ref a) ∧ Q v H2 := by
  have na : upd H1 dx (.xd [(f, y)]) a = none := by
    rw [upd_ne ne]
    exact I1.hok.gone ha
  obtain ⟨t', e'⟩ := e'
  exact ⟨.ref a, _, J.laidN (h' := h') (t' := tk) (fun b o z => of_hideAll _ z) (hideAll_none _ (by simp)) na (cauO_ok e' ⟨rfl, rfl⟩ rfl), rfl, q1 dx a (I1.hok.gone hdx) na⟩
theorem pe_mkX (T : ExC1 X.prog X.K X.mg C f) (hr : Room (k + 1) X.A) (hg : Gl X x) (hm : X.mg x = some (.ref C)) (he : PE X e te) (hdb : (x == ("__debug__" : Str)) = false := by decide)
    (hs : starEach [e] X.env = (false, eval e X.env) :: starEach [] X.env := by rfl) : PE X (.Call (.Name x p) [e] [] pos) (tMk C f te) := by
  refine ⟨fun pins s σ H Q I h => ?_⟩
  refine wpAny_Call_Name_kw (ld_glob I hg hm ?_ hdb)
  refine callWith_K (h₀ := X.base) I.ok.mod.kin T.kC ?_ hs (by rfl)
  rw [hs]
  show wpAny _ _ (spliced ((false, eval e X.env) :: backTo pos (starEach [] X.env))) _ _ s
  refine Calls.spliced_cons (thn (he.run pins s σ H _ I h) fun u s1 ⟨y, H1, I1, r1, q1⟩ => ?_)
  refine Calls.spliced_nil ⟨I1.kIn, ?_⟩
  exact made_run T hr I1 r1 (.inl ⟨rfl, rfl⟩) fun a dx h' tk _ ha hdx ne e' J => mk_fin I1 q1 a dx h' tk ha hdx ne e' J
/-- C(f = e) -/
theorem pe_mkXK {nm : Option Str} {kpos : Pos} (T : ExC1 X.prog X.K X.mg C f) (hr : Room (k + 1) X.A) (hg : Gl X x) (hm : X.mg x = some (.ref C)) (he : PE X e te)
    (hall : (backToKw pos (keywordEach [⟨nm, e, kpos⟩] X.env)).all (·.1.isSome) = true := by rfl) (hks : (backToKw pos (keywordEach [⟨nm, e, kpos⟩] X.env)).filterMap (·.1) = [f] := by rfl)
    (hdb : (x == ("__debug__" : Str)) = false := by decide) (hpl : ((backTo pos (starEach [] X.env)).any (·.1) || (backToKw pos (keywordEach [⟨nm, e, kpos⟩] X.env)).any (·.1.isNone)) = false := by rfl) :
    PE X (.Call (.Name x p) [] [⟨nm, e, kpos⟩] pos) (tMk C f te) := by
  refine ⟨fun pins s σ H Q I h => ?_⟩
  refine wpAny_Call_Name_kw (ld_glob I hg hm ?_ hdb)
  refine PySem.W.callWith_KW0 (h₀ := X.base) I.ok.mod.kin T.kC hall (thn ((pk_cons he pk_nil).run pos pins s σ H (fun zs H2 => match zs with
    | [y] => ∀ d a, H2 d = none → upd H2 d (.xd [(f, y)]) a = none → Q (.ref a) (upd (upd H2 d (.xd [(f, y)])) a (CauO (.ref C) (some d) a))
    | _ => False) I h) fun ws s1 ⟨zs, H1, I1, rz, q1⟩ => ⟨I1.kIn, ?_⟩) hpl
  rw [hks]
  cases rz with
  | nil => exact q1.elim
  | cons r1 rr =>
    cases rr with
    | cons _ _ => exact q1.elim
    | nil => exact made_run T hr I1 r1 (.inr ⟨rfl, rfl⟩) fun a dx h' tk _ ha hdx ne e' J => mk_fin I1 q1 a dx h' tk ha hdx ne e' J
theorem made_run0 {pins : List (Addr × Obj)} {σ : L2.St} {H1 : Hp} {s1 : Shared} {Q : Value → Shared → Prop} (T : ExC0 X.prog X.K X.mg C) (hr : Room (k + 1) X.A) (I1 : Inv X pins σ H1 s1)
    (goes : ∀ (a : Addr) (h' : Heap) (tk : Nat), (∀ b o, s1.heap.get? b = some o → (hideAll h' [a]).get? b = some o) → s1.heap.get? a = none → (∃ t', h'.get? a = some (excObj C t' none .none)) →
      Inv X pins σ H1 { s1 with heap := hideAll h' [a], toks := tk } → Q (.ref a) { s1 with heap := h', toks := tk }) :
    wpAny (model X.prog X.w) X.A (call (.ref C) []) Q X.xe s1 := by
  obtain ⟨B, i, newId, bmB, fI, cc, cda, qual, txt, file, params, scope, p0, p1, p2, p3, p4, p5, j, ar, IC⟩ := T.ini
  obtain ⟨hp, g, dr, tk, os⟩ := s1
  obtain ⟨nm, N', qn, bs, bm, hdct, sn, sub, ab, col, dd, k0, k1, k2, k3, k5, hC, hT⟩ := excInit_of I1.kIn IC.T.q
  have kk : ∀ b o, hp.get? b = some o → ((hp.push (kdv_tup [])).push (PySem.HandSPX.excO C hp.objs.size)).get? b = some o := fun b o z => Heap.get?_push_of_some _ (Heap.get?_push_of_some _ z)
  have hget : ((hp.push (kdv_tup [])).push (PySem.HandSPX.excO C hp.objs.size)).get? (hp.objs.size + 1) = some (excObj C hp.objs.size none .none) := by heap_get
  have hn0 : hp.get? (hp.objs.size + 1) = none := by
    cases q : hp.get? (hp.objs.size + 1) with
    | none => rfl
    | some o => exact absurd (Heap.lt_size q) (Nat.not_lt.mpr (Nat.le_succ _))
  have hbn : X.base.get? (hp.objs.size + 1) = none := by
    cases q : X.base.get? (hp.objs.size + 1) with
    | none => rfl
    | some o =>
      have := I1.bk _ _ q
      rw [hn0] at this
      cases this
  refine wpAny_call (callK_own IC.T.FB hT hC (looks_findIn I1.kIn IC.hi) (fun self => bind_fn I1.kIn self IC.ty) (Nat.zero_le _) ?_)
  refine sup_init0 (base := X.base) IC (Nat.lt_of_le_of_lt (Nat.le_trans (Nat.le_add_right _ _) (Nat.le_add_right _ _)) (hr.make C [] []).dp) I1.ok.mod (fun b o z => kk b o (I1.bk b o z)) hbn hget fun h' t' tk' keep e' => ?_
  refine ⟨rfl, ?_⟩
  have kG : ∀ b o, hp.get? b = some o → (hideAll h' [hp.objs.size + 1]).get? b = some o := fun b o z => by
    have hb : b ≠ hp.objs.size + 1 := fun w => by
      rw [w, hn0] at z
      cases z
    exact hideAll_get _ (keep b o hb (kk b o z)) (by simpa using hb)
  exact goes (hp.objs.size + 1) h' tk' kG hn0 ⟨t', e'⟩ (I1.kept kG)
theorem pe_mkX0 (T : ExC0 X.prog X.K X.mg C) (hr : Room (k + 1) X.A) (hg : Gl X x) (hm : X.mg x = some (.ref C)) (hdb : (x == ("__debug__" : Str)) = false := by decide) :
    PE X (.Call (.Name x p) [] [] pos) (fun σ H Q => ∀ a, H a = none → Q (.ref a) (upd H a (CauO (.ref C) none a))) := by
  refine ⟨fun pins s σ H Q I h => ?_⟩
  refine wpAny_Call_Name_kw (ld_glob I hg hm ?_ hdb)
  refine PySem.W.callWith_KW0 (h₀ := X.base) (kws := []) I.ok.mod.kin T.kC (by rfl) (thn ((pk_nil (X := X)).run pos pins s σ H (fun zs H2 => zs = [] ∧ H2 = H) I ⟨rfl, rfl⟩) fun ws s1 ⟨zs, H1, I1, rz, ez, eH⟩ => ⟨I1.kIn, ?_⟩) (by rfl)
  subst ez eH
  cases rz
  refine made_run0 T hr I1 fun a h' tk _ ha e' J => ?_
  have na := I1.hok.gone ha
  obtain ⟨t', e'⟩ := e'
  exact ⟨.ref a, _, J.laidN (h' := h') (t' := tk) (fun b o z => of_hideAll _ z) (hideAll_none _ (by simp)) na (cauO_ok e' ⟨rfl, rfl⟩ rfl), rfl, h a na⟩
end
end DVX
end
section
set_option Elab.async false
set_option linter.all false
set_option maxRecDepth 100000
set_option maxHeartbeats 4000000
namespace DV
open PySem PySem.Spec PyProof.Rows L2
abbrev St := L2.St
/-- plain data -/
inductive D where
  | non | bl (b : Bool) | int (i : Int) | str (x : Str) | opq (v : V)
  | lst (xs : List D) | tup (xs : List D)
  | dct (kvs : List (Key × D)) | dctT (kvs : List (List Key × D))
  | scr (xs : List Int)
  | fd (kvs : List (Int × D))            -- a dict of whole numbers, locked
  | exn (n : Str) (fs : List (Str × D))  -- an exception that was caught: its class's name, its fields
  deriving Inhabited
mutual
inductive Rp (K : PySem.W.Frag) (G : Hp) : V → D → Prop
  | non : Rp K G .non .non
  | bl (b : Bool) : Rp K G (.bl b) (.bl b)
  | int (i : Int) : Rp K G (.int i) (.int i)
  | str (x : Str) : Rp K G (.str x) (.str x)
  | opq (v : V) : Rp K G v (.opq v)
  | lst {a : Addr} {vs : List V} {ds : List D} : G a = some (.lst vs) → Rps K G vs ds → Rp K G (.ref a) (.lst ds)
  | tup {a : Addr} {vs : List V} {ds : List D} : G a = some (.tup vs) → Rps K G vs ds → Rp K G (.ref a) (.tup ds)
  | dct {a : Addr} {ks : List (Key × V)} {ds : List (Key × D)} : G a = some (.dK ks) → ks.map (·.1) = ds.map (·.1) → Rps K G (ks.map (·.2)) (ds.map (·.2)) → Rp K G (.ref a) (.dct ds)
  | dctT {a : Addr} {ks : List (List Key × V)} {ds : List (List Key × D)} : G a = some (.dT ks) → ks.map (·.1) = ds.map (·.1) → Rps K G (ks.map (·.2)) (ds.map (·.2)) → Rp K G (.ref a) (.dctT ds)
  | scr {a : Addr} {xs : List Int} : SqL K G a (xs.map V.int) → Rp K G (.ref a) (.scr xs)
  | fd {a : Addr} {o : Obj} {ks : List (Key × V)} {ds : List (Int × D)} : G a = some (.frz o (.dK ks)) → ks.map (·.1) = ds.map (fun p => Sum.inl p.1) → Rps K G (ks.map (·.2)) (ds.map (·.2)) → Rp K G (.ref a) (.fd ds)
  | exn0 {a : Addr} {n : Str} : G a = some (DVX.CauO (.ref (He.ga K n)) none a) → Rp K G (.ref a) (.exn n [])
  | exn1 {a dd : Addr} {n : Str} {fvs : List (Str × V)} {fs : List (Str × D)} : G a = some (DVX.CauO (.ref (He.ga K n)) (some dd) a) → G dd = some (.xd fvs) → fvs.map (·.1) = fs.map (·.1) → Rps K G (fvs.map (·.2)) (fs.map (·.2)) → Rp K G (.ref a) (.exn n fs)
inductive Rps (K : PySem.W.Frag) (G : Hp) : List V → List D → Prop
  | nil : Rps K G [] []
  | cons {v : V} {d : D} {vs : List V} {ds : List D} : Rp K G v d → Rps K G vs ds → Rps K G (v :: vs) (d :: ds)
end
mutual
theorem Rp.mono {K : PySem.W.Frag} {G G' : Hp} (h : ∀ a o, G a = some o → G' a = some o) : ∀ {v : V} {d : D}, Rp K G v d → Rp K G' v d
  | _, _, .non => .non
  | _, _, .bl b => .bl b
  | _, _, .int i => .int i
  | _, _, .str x => .str x
  | _, _, .opq v => .opq v
  | _, _, .lst r q => .lst (h _ _ r) (Rps.mono h q)
  | _, _, .tup r q => .tup (h _ _ r) (Rps.mono h q)
  | _, _, .dct r e q => .dct (h _ _ r) e (Rps.mono h q)
  | _, _, .dctT r e q => .dctT (h _ _ r) e (Rps.mono h q)
  | _, _, .scr r => .scr (Same.seq h r)
  | _, _, .fd r e q => .fd (h _ _ r) e (Rps.mono h q)
  | _, _, .exn0 r => .exn0 (h _ _ r)
  | _, _, .exn1 r s e q => .exn1 (h _ _ r) (h _ _ s) e (Rps.mono h q)
theorem Rps.mono {K : PySem.W.Frag} {G G' : Hp} (h : ∀ a o, G a = some o → G' a = some o) : ∀ {vs : List V} {ds : List D}, Rps K G vs ds → Rps K G' vs ds
  | _, _, .nil => .nil
  | _, _, .cons r q => .cons (Rp.mono h r) (Rps.mono h q)
end
section
variable {K : PySem.W.Frag} {G : Hp}
theorem Rps.length : ∀ {vs : List V} {ds : List D}, Rps K G vs ds → vs.length = ds.length
  | _, _, .nil => rfl
  | _, _, .cons _ q => by simp [Rps.length q]
theorem Rps.get : ∀ {vs : List V} {ds : List D} {i : Nat} {d : D}, Rps K G vs ds → ds[i]? = some d → ∃ v, vs[i]? = some v ∧ Rp K G v d
  | _, _, i, d, .nil, e => by simp at e
  | _, _, 0, d, .cons r _, e => by simp at e; subst e; exact ⟨_, rfl, r⟩
  | _, _, i + 1, d, .cons _ q, e => by
    obtain ⟨v, h1, h2⟩ := Rps.get (i := i) (d := d) q (by simpa using e)
    exact ⟨v, by simpa using h1, h2⟩
theorem Rps.append : ∀ {vs ws : List V} {ds es : List D}, Rps K G vs ds → Rps K G ws es → Rps K G (vs ++ ws) (ds ++ es)
  | _, _, _, _, .nil, h => h
  | _, _, _, _, .cons r q, h => .cons r (Rps.append q h)
theorem Rps.take : ∀ {vs : List V} {ds : List D} (n : Nat), Rps K G vs ds → Rps K G (vs.take n) (ds.take n)
  | _, _, 0, _ => .nil
  | _, _, _ + 1, .nil => .nil
  | _, _, n + 1, .cons r q => .cons r (Rps.take n q)
theorem Rps.drop : ∀ {vs : List V} {ds : List D} (n : Nat), Rps K G vs ds → Rps K G (vs.drop n) (ds.drop n)
  | _, _, 0, h => h
  | _, _, _ + 1, .nil => .nil
  | _, _, n + 1, .cons _ q => Rps.drop n q
theorem Rps.set {v : V} {d : D} (r : Rp K G v d) : ∀ {vs : List V} {ds : List D} (i : Nat), Rps K G vs ds → Rps K G (vs.set i v) (ds.set i d)
  | _, _, _, .nil => .nil
  | _, _, 0, .cons _ q => .cons r q
  | _, _, i + 1, .cons p q => .cons p (Rps.set r i q)
theorem Rps.eraseIdx : ∀ {vs : List V} {ds : List D} (i : Nat), Rps K G vs ds → Rps K G (vs.eraseIdx i) (ds.eraseIdx i)
  | _, _, _, .nil => .nil
  | _, _, 0, .cons _ q => q
  | _, _, i + 1, .cons r q => .cons r (Rps.eraseIdx i q)
theorem Rps.reverse : ∀ {vs : List V} {ds : List D}, Rps K G vs ds → Rps K G vs.reverse ds.reverse
  | _, _, .nil => .nil
  | _, _, .cons r q => by simp only [List.reverse_cons]; exact (Rps.reverse q).append (.cons r .nil)
theorem Rps.rep {vs : List V} {ds : List D} (h : Rps K G vs ds) : ∀ k : Nat, Rps K G (List.replicate k vs).flatten (List.replicate k ds).flatten
  | 0 => .nil
  | k + 1 => by simp only [List.replicate_succ, List.flatten_cons]; exact h.append (Rps.rep h k)
theorem Rps.one {v : V} {ds : List D} (h : Rps K G [v] ds) : ∃ d, ds = [d] ∧ Rp K G v d := by
  cases h with | cons r q => cases q; exact ⟨_, rfl, r⟩
end
/-- an object's content -/
inductive Ob (K : PySem.W.Frag) (G : Hp) : HO → D → Prop
  | lst {vs : List V} {ds : List D} : Rps K G vs ds → Ob K G (.lst vs) (.lst ds)
  | dct {ks : List (Key × V)} {ds : List (Key × D)} : ks.map (·.1) = ds.map (·.1) → Rps K G (ks.map (·.2)) (ds.map (·.2)) → Ob K G (.dK ks) (.dct ds)
  | dctT {ks : List (List Key × V)} {ds : List (List Key × D)} : ks.map (·.1) = ds.map (·.1) → Rps K G (ks.map (·.2)) (ds.map (·.2)) → Ob K G (.dT ks) (.dctT ds)
theorem Ob.mono {K : PySem.W.Frag} {G G' : Hp} (h : ∀ a o, G a = some o → G' a = some o) {o : HO} {d : D} : Ob K G o d → Ob K G' o d
  | .lst q => .lst (q.mono h)
  | .dct e q => .dct e (q.mono h)
  | .dctT e q => .dctT e (q.mono h)
theorem Ob.rp {K : PySem.W.Frag} {G : Hp} {a : Addr} {o : HO} {d : D} (h : G a = some o) : Ob K G o d → Rp K G (.ref a) d
  | .lst q => .lst h q
  | .dct e q => .dct h e q
  | .dctT e q => .dctT h e q
inductive Md where
  | own | lock | io (k : Nat) | iolock (k : Nat)
  deriving DecidableEq
/-- a slot, as it is known -/
inductive Sl where
  | un | val (d : D) | bor (d : D) | obj (m : Md) (d : D)
  | par (d : D)                                  -- known since the frame began
  | nst (fs : List Bool) (ds : List D)           -- a list made since then; which of its items are such lists
def Md.wr : Md → Bool
  | .own => true | .io _ => true | _ => false
abbrev LS := List Sl
structure Bs where
  K : PySem.W.Frag
  H0 : Hp
  G0 : Hp
  io : List Addr
def ObjAt (L : LS) (σ : St) (a : Addr) : Prop := ∃ (i : Nat) (m : Md) (d : D), L[i]? = some (.obj m d) ∧ σ[i]? = some (some (.ref a))
def WrAt (L : LS) (σ : St) (a : Addr) : Prop := ∃ (i : Nat) (m : Md) (d : D), m.wr = true ∧ L[i]? = some (.obj m d) ∧ σ[i]? = some (some (.ref a))
def MdOk (B : Bs) (a : Addr) : Md → Prop
  | .own => B.H0 a = none
  | .lock => B.H0 a = none
  | .io k => B.io[k]? = some a
  | .iolock k => B.io[k]? = some a
/-- readable now -/
def RpH (B : Bs) (L : LS) (σ : St) (H G : Hp) (v : V) (d : D) : Prop := Rp B.K G v d ∨ ∃ a o, v = .ref a ∧ H a = some o ∧ Ob B.K G o d ∧ ¬ ObjAt L σ a ∧ B.H0 a ≠ none
/-- a list that stands in the region, made since the frame began; so are the items that fs tells -/
def NstOk (B : Bs) (G : Hp) (v : V) (fs : List Bool) (ds : List D) : Prop := ∃ (a : Addr) (vs : List V), v = V.ref a ∧ G a = some (.lst vs) ∧ Rps B.K G vs ds ∧ B.H0 a = none ∧ B.G0 a = none ∧
  ∀ k : Nat, fs[k]? = some true → ∃ (b : Addr) (ws : List V), vs[k]? = some (V.ref b) ∧ G b = some (.lst ws) ∧ ws.length ≤ 1000000 ∧ B.H0 b = none ∧ B.G0 b = none
theorem NstOk.mono {B : Bs} {G G' : Hp} (h : ∀ a o, G a = some o → G' a = some o) {v : V} {fs : List Bool} {ds : List D} (k : NstOk B G v fs ds) : NstOk B G' v fs ds := by
  obtain ⟨a, vs, h1, h2, h3, h4, h5, h6⟩ := k
  refine ⟨a, vs, h1, h _ _ h2, h3.mono h, h4, h5, fun k hk => ?_⟩
  obtain ⟨b, ws, k1, k2, k3⟩ := h6 k hk
  exact ⟨b, ws, k1, h _ _ k2, k3⟩
def SlOk (B : Bs) (L : LS) (σ : St) (H G : Hp) (ov : Option (Option V)) : Sl → Prop
  | .un => True
  | .val d => ∃ v, ov = some (some v) ∧ Rp B.K G v d
  | .bor d => ∃ v, ov = some (some v) ∧ RpH B L σ H G v d
  | .par d => ∃ v, ov = some (some v) ∧ Rp B.K B.G0 v d
  | .nst fs ds => ∃ v, ov = some (some v) ∧ NstOk B G v fs ds
  | .obj m d => ∃ a o, ov = some (some (.ref a)) ∧ H a = some o ∧ Ob B.K G o d ∧ G a = none ∧ MdOk B a m
structure EnvOk (B : Bs) (L : LS) (σ : St) (H G : Hp) : Prop where
  len : L.length = σ.length
  sub : ∀ a o, G a = some o → H a = some o
  old : ∀ a o, B.G0 a = some o → G a = some o
  new : ∀ a o, G a = some o → B.G0 a = some o ∨ B.H0 a = none
  keep : ∀ a o, B.H0 a = some o → a ∉ B.io → H a = some o
  dom : ∀ a, B.H0 a ≠ none → H a ≠ none
  at_ : ∀ (i : Nat) (sl : Sl), L[i]? = some sl → SlOk B L σ H G σ[i]? sl
  inj : ∀ (i j : Nat) (m n : Md) (d e : D) (a : Addr), L[i]? = some (.obj m d) → L[j]? = some (.obj n e) → σ[i]? = some (some (.ref a)) → σ[j]? = some (some (.ref a)) → i = j
/-- an expression's value: frozen data; a new object that nothing else holds; a slot's object -/
inductive R where
  | v (d : D) | t (d : D) | s (i : Nat)
structure Ex where
  cls : Str
  fs : List (Str × D)
inductive Rs (α : Type) where
  | ok (x : α) (L : LS) | exc (e : Ex) (L : LS) | stuck
def RR (K : PySem.W.Frag) (Hs : Hp) (L : LS) (σ : St) (H G : Hp) (v : V) : R → Prop
  | .v d => Rp K G v d
  | .t d => ∃ a o, v = .ref a ∧ H a = some o ∧ Ob K G o d ∧ G a = none ∧ Hs a = none ∧ ¬ ObjAt L σ a
  | .s i => σ[i]? = some (some v)
structure Stp (L : LS) (σ : St) (H G : Hp) (L' : LS) (H' G' : Hp) : Prop where
  gsub : ∀ a o, G a = some o → G' a = some o
  gnew : ∀ a o, G' a = some o → G a = some o ∨ H a = none ∨ ObjAt L σ a
  keep : ∀ a o, H a = some o → ¬ WrAt L σ a → H' a = some o
  dom : ∀ a, H a ≠ none → H' a ≠ none
  own : ∀ (i : Nat) (m : Md) (d : D), L'[i]? = some (.obj m d) → ∃ e, L[i]? = some (.obj m e)
theorem WrAt.obj {L : LS} {σ : St} {a : Addr} : WrAt L σ a → ObjAt L σ a
  | ⟨i, m, d, _, h, k⟩ => ⟨i, m, d, h, k⟩
section
variable {K : PySem.W.Frag} {B : Bs} {L L' L'' : LS} {σ : St} {H G H' G' H'' G'' : Hp}
theorem Stp.refl : Stp L σ H G L H G := ⟨fun _ _ h => h, fun _ _ h => .inl h, fun _ _ h _ => h, fun _ h => h, fun _ _ d h => ⟨d, h⟩⟩
theorem Stp.objs (s : Stp L σ H G L' H' G') {a : Addr} : ObjAt L' σ a → ObjAt L σ a
  | ⟨i, m, d, h, k⟩ => let ⟨e, q⟩ := s.own i m d h; ⟨i, m, e, q, k⟩
theorem Stp.wrs (s : Stp L σ H G L' H' G') {a : Addr} : WrAt L' σ a → WrAt L σ a
  | ⟨i, m, d, w, h, k⟩ => let ⟨e, q⟩ := s.own i m d h; ⟨i, m, e, w, q, k⟩
theorem Stp.trans (s : Stp L σ H G L' H' G') (t : Stp L' σ H' G' L'' H'' G'') : Stp L σ H G L'' H'' G'' where
  gsub := fun a o h => t.gsub a o (s.gsub a o h)
  gnew := fun a o h => by
    rcases t.gnew a o h with k | k | k
    · exact s.gnew a o k
    · cases q : H a with
      | none => exact .inr (.inl rfl)
      | some u => exact absurd k (s.dom a (by rw [q]; simp))
    · exact .inr (.inr (s.objs k))
  keep := fun a o h n => t.keep a o (s.keep a o h n) fun k => n (s.wrs k)
  dom := fun a h => t.dom a (s.dom a h)
  own := fun i m d h => by
    obtain ⟨e, q⟩ := t.own i m d h
    exact s.own i m e q
theorem Stp.rp (s : Stp L σ H G L' H' G') {v : V} {d : D} (h : Rp K G v d) : Rp K G' v d := h.mono s.gsub
theorem RR.base {Hs Ht : Hp} (q : ∀ a, Hs a ≠ none → Ht a ≠ none) {v : V} {r : R} (h : RR K Ht L σ H G v r) : RR K Hs L σ H G v r := by
  cases r with
  | v d => exact h
  | t d =>
    obtain ⟨a, o, e, h1, h2, h3, h4, h5⟩ := h
    refine ⟨a, o, e, h1, h2, h3, ?_, h5⟩
    cases k : Hs a with
    | none => rfl
    | some u => exact absurd h4 (q a (by rw [k]; simp))
  | s i => exact h
theorem Stp.rr {Hs : Hp} (s : Stp L σ H G L' H' G') {v : V} {r : R} (h : RR K Hs L σ H G v r) : RR K Hs L' σ H' G' v r := by
  cases r with
  | v d => exact h.mono s.gsub
  | t d =>
    obtain ⟨a, o, e, h1, h2, h3, h4, h5⟩ := h
    refine ⟨a, o, e, s.keep a o h1 fun k => h5 k.obj, h2.mono s.gsub, ?_, h4, fun k => h5 (s.objs k)⟩
    cases q : G' a with
    | none => rfl
    | some u =>
      rcases s.gnew a u q with k | k | k
      · rw [h3] at k; cases k
      · rw [h1] at k; cases k
      · exact absurd k h5
  | s i => exact h
end
theorem some_ne {α : Type} {x : α} {o : Option α} (h : o = some x) : o ≠ none := by rw [h]; simp
/-- all that is needed of a new heap and region when slots stay as they are -/
theorem EnvOk.grow {B : Bs} {L : LS} {σ : St} {H G H' G' : Hp} (E : EnvOk B L σ H G) (gs : ∀ a o, G a = some o → G' a = some o) (gn : ∀ a o, G' a = some o → G a = some o ∨ H a = none)
    (hs : ∀ a o, H a = some o → H' a = some o) (sb : ∀ a o, G' a = some o → H' a = some o) : EnvOk B L σ H' G' where
  len := E.len
  sub := sb
  old := fun a o h => gs a o (E.old a o h)
  new := fun a o h => by
    rcases gn a o h with k | k
    · exact E.new a o k
    · refine .inr ?_
      cases q : B.H0 a with
      | none => rfl
      | some u => exact absurd k (E.dom a (some_ne q))
  keep := fun a o h n => hs a o (E.keep a o h n)
  dom := fun a h => by
    cases q : H a with
    | none => exact absurd q (E.dom a h)
    | some u => exact some_ne (hs a u q)
  at_ := fun i sl h => by
    have k := E.at_ i sl h
    cases sl with
    | un => trivial
    | val d => obtain ⟨v, e, r⟩ := k; exact ⟨v, e, r.mono gs⟩
    | bor d =>
      obtain ⟨v, e, r⟩ := k
      refine ⟨v, e, ?_⟩
      rcases r with r | ⟨a, o, e', h1, h2, h3⟩
      · exact .inl (r.mono gs)
      · exact .inr ⟨a, o, e', hs a o h1, h2.mono gs, h3⟩
    | par d => exact k
    | nst fs d => obtain ⟨v, e, r⟩ := k; exact ⟨v, e, r.mono gs⟩
    | obj m d =>
      obtain ⟨a, o, e, h1, h2, h3, h4⟩ := k
      refine ⟨a, o, e, hs a o h1, h2.mono gs, ?_, h4⟩
      cases q : G' a with
      | none => rfl
      | some u =>
        rcases gn a u q with k | k
        · rw [h3] at k; cases k
        · rw [h1] at k; cases k
  inj := E.inj
theorem Stp.grow {L : LS} {σ : St} {H G H' G' : Hp} (gs : ∀ a o, G a = some o → G' a = some o) (gn : ∀ a o, G' a = some o → G a = some o ∨ H a = none)
    (hs : ∀ a o, H a = some o → H' a = some o) : Stp L σ H G L H' G' where
  gsub := gs
  gnew := fun a o h => (gn a o h).elim .inl fun k => .inr (.inl k)
  keep := fun a o h _ => hs a o h
  dom := fun a h => by
    cases q : H a with
    | none => exact absurd q h
    | some u => exact some_ne (hs a u q)
  own := fun _ _ d h => ⟨d, h⟩
theorem upd_keep {H : Hp} {p : Addr} {o : HO} (h : H p = none) : ∀ a u, H a = some u → upd H p o a = some u := fun a u k => by rw [upd_ne (ne_of_none k h)]; exact k
/-- a new object, not in the region -/
theorem EnvOk.laid {B : Bs} {L : LS} {σ : St} {H G : Hp} (E : EnvOk B L σ H G) {p : Addr} {o : HO} (hp : H p = none) : EnvOk B L σ (upd H p o) G ∧ Stp L σ H G L (upd H p o) G ∧ G p = none ∧ B.H0 p = none ∧ ¬ ObjAt L σ p := by
  refine ⟨E.grow (fun _ _ h => h) (fun _ _ h => .inl h) (upd_keep hp) fun a u h => upd_keep hp a u (E.sub a u h), Stp.grow (fun _ _ h => h) (fun _ _ h => .inl h) (upd_keep hp), ?_, ?_, ?_⟩
  · cases q : G p with
    | none => rfl
    | some u => rw [E.sub p u q] at hp; cases hp
  · cases q : B.H0 p with
    | none => rfl
    | some u => exact absurd hp (E.dom p (some_ne q))
  · rintro ⟨i, m, d, h1, h2⟩
    obtain ⟨a, u, e, k, _⟩ := E.at_ i _ h1
    rw [h2] at e; cases e
    rw [hp] at k; cases k
/-- a new object, in the region -/
theorem EnvOk.laidG {B : Bs} {L : LS} {σ : St} {H G : Hp} (E : EnvOk B L σ H G) {p : Addr} {o : HO} (hp : H p = none) : EnvOk B L σ (upd H p o) (upd G p o) ∧ Stp L σ H G L (upd H p o) (upd G p o) ∧ upd G p o p = some o ∧ ∀ a u, G a = some u → upd G p o a = some u := by
  have gp : G p = none := (E.laid (o := o) hp).2.2.1
  have gn : ∀ a u, upd G p o a = some u → G a = some u ∨ H a = none := fun a u h => by
    by_cases e : a = p
    · subst e; exact .inr hp
    · rw [upd_ne e] at h; exact .inl h
  refine ⟨E.grow (upd_keep gp) gn (upd_keep hp) fun a u h => ?_, Stp.grow (upd_keep gp) gn (upd_keep hp), upd_same, upd_keep gp⟩
  by_cases e : a = p
  · subst e; rw [upd_same] at h ⊢; exact h
  · rw [upd_ne e] at h ⊢; exact E.sub a u h
/-! ### reading a value -/
def peek (L : LS) : R → Option D
  | .v d => some d
  | .t d => some d
  | .s i => match L[i]? with
    | some (.val d) => some d
    | some (.bor d) => some d
    | some (.obj _ d) => some d
    | _ => none
/-- what is readable now, without who holds it -/
def RpN (K : PySem.W.Frag) (H G : Hp) (v : V) (d : D) : Prop := Rp K G v d ∨ ∃ a o, v = .ref a ∧ H a = some o ∧ Ob K G o d
theorem peek_ok {B : Bs} {Hs : Hp} {L : LS} {σ : St} {H G : Hp} (E : EnvOk B L σ H G) {v : V} {r : R} {d : D} (h : RR B.K Hs L σ H G v r) (p : peek L r = some d) : RpN B.K H G v d := by
  cases r with
  | v e => cases p; exact .inl h
  | t e => cases p; obtain ⟨a, o, h1, h2, h3, _⟩ := h; exact .inr ⟨a, o, h1, h2, h3⟩
  | s i =>
    simp only [peek] at p
    have h' : σ[i]? = some (some v) := h
    split at p
    · rename_i e q; cases p; obtain ⟨w, e1, e2⟩ := E.at_ i _ q; rw [h'] at e1; cases e1; exact .inl e2
    · rename_i e q; cases p; obtain ⟨w, e1, e2⟩ := E.at_ i _ q; rw [h'] at e1; cases e1
      rcases e2 with e2 | ⟨a, o, e2, e3, e4, _⟩
      · exact .inl e2
      · exact .inr ⟨a, o, e2, e3, e4⟩
    · rename_i m e q; cases p; obtain ⟨a, o, e1, e2, e3, _⟩ := E.at_ i _ q; rw [h'] at e1; cases e1; exact .inr ⟨a, o, rfl, e2, e3⟩
    · cases p
/-- a list that can be read -/
theorem RpN.lst {K : PySem.W.Frag} {H G : Hp} (sb : ∀ a o, G a = some o → H a = some o) {v : V} {ds : List D} (h : RpN K H G v (.lst ds)) : ∃ a vs, v = .ref a ∧ H a = some (.lst vs) ∧ Rps K G vs ds := by
  rcases h with h | ⟨a, o, e, h1, h2⟩
  · cases h with | lst r q => exact ⟨_, _, rfl, sb _ _ r, q⟩
  · cases h2 with | lst q => exact ⟨_, _, e, h1, q⟩
theorem RpN.tup {K : PySem.W.Frag} {H G : Hp} (sb : ∀ a o, G a = some o → H a = some o) {v : V} {ds : List D} (h : RpN K H G v (.tup ds)) : ∃ a vs, v = .ref a ∧ H a = some (.tup vs) ∧ Rps K G vs ds := by
  rcases h with h | ⟨a, o, e, h1, h2⟩
  · cases h with | tup r q => exact ⟨_, _, rfl, sb _ _ r, q⟩
  · cases h2
theorem RpN.int {K : PySem.W.Frag} {H G : Hp} {v : V} {i : Int} (h : RpN K H G v (.int i)) : v = .int i := by
  rcases h with h | ⟨a, o, e, h1, h2⟩
  · cases h; rfl
  · cases h2
theorem RpN.bl {K : PySem.W.Frag} {H G : Hp} {v : V} {i : Bool} (h : RpN K H G v (.bl i)) : v = .bl i := by
  rcases h with h | ⟨a, o, e, h1, h2⟩
  · cases h; rfl
  · cases h2
theorem RpN.str {K : PySem.W.Frag} {H G : Hp} {v : V} {i : Str} (h : RpN K H G v (.str i)) : v = .str i := by
  rcases h with h | ⟨a, o, e, h1, h2⟩
  · cases h; rfl
  · cases h2
theorem RpN.non {K : PySem.W.Frag} {H G : Hp} {v : V} (h : RpN K H G v .non) : v = .non := by
  rcases h with h | ⟨a, o, e, h1, h2⟩
  · cases h; rfl
  · cases h2
theorem RpN.scr {K : PySem.W.Frag} {H G : Hp} (sb : ∀ a o, G a = some o → H a = some o) {v : V} {xs : List Int} (h : RpN K H G v (.scr xs)) : ∃ a, v = .ref a ∧ SqL K H a (xs.map V.int) := by
  rcases h with h | ⟨a, o, e, h1, h2⟩
  · cases h with | scr r => exact ⟨_, rfl, Same.seq sb r⟩
  · cases h2
theorem RpN.opq {K : PySem.W.Frag} {H G : Hp} {v w : V} (h : RpN K H G v (.opq w)) : v = w := by
  rcases h with h | ⟨a, o, e, h1, h2⟩
  · cases h; rfl
  · cases h2
/-! ### freezing -/
def fz (L : LS) : R → Option (D × LS)
  | .v d => some (d, L)
  | .t d => some (d, L)
  | .s i => match L[i]? with
    | some (.val d) => some (d, L)
    | some (.obj .own d) => some (d, L.set i (.val d))
    | _ => none
/-- an object that none else holds goes into the region -/
theorem EnvOk.freeze {B : Bs} {L L' : LS} {σ : St} {H G : Hp} (E : EnvOk B L σ H G) {a : Addr} {o : HO} {d : D} (ha : H a = some o) (ho : Ob B.K G o d) (ga : G a = none) (b0 : B.H0 a = none)
    (hl : L'.length = L.length) (sl : ∀ (i : Nat) (x : Sl), L'[i]? = some x → (L[i]? = some x ∧ ∀ m e, x = .obj m e → σ[i]? ≠ some (some (.ref a))) ∨ (x = .val d ∧ σ[i]? = some (some (.ref a)))) :
    EnvOk B L' σ H (upd G a o) ∧ Rp B.K (upd G a o) (.ref a) d := by
  have gs := upd_keep (o := o) ga
  have sb : ∀ b u, upd G a o b = some u → H b = some u := fun b u k => by
    by_cases e : b = a
    · subst e; rw [upd_same] at k; cases k; exact ha
    · rw [upd_ne e] at k; exact E.sub b u k
  have rp : Rp B.K (upd G a o) (.ref a) d := (ho.mono gs).rp upd_same
  have ol : ∀ (i : Nat) (m : Md) (e : D), L'[i]? = some (.obj m e) → L[i]? = some (.obj m e) := fun i m e k => by
    rcases sl i _ k with q | q
    · exact q.1
    · cases q.1
  refine ⟨⟨hl.trans E.len, sb, fun b u k => gs b u (E.old b u k), fun b u k => ?_, E.keep, E.dom, fun i x k => ?_, fun i j m n d e b h1 h2 => E.inj i j m n d e b (ol _ _ _ h1) (ol _ _ _ h2)⟩, rp⟩
  · by_cases e : b = a
    · subst e; exact .inr b0
    · rw [upd_ne e] at k; exact E.new b u k
  · rcases sl i x k with ⟨k', ne⟩ | ⟨rfl, e⟩
    · have q := E.at_ i x k'
      cases x with
      | un => trivial
      | val d => obtain ⟨v, e, r⟩ := q; exact ⟨v, e, r.mono gs⟩
      | bor d =>
        obtain ⟨v, e, r⟩ := q
        refine ⟨v, e, ?_⟩
        rcases r with r | ⟨b, u, e', h1, h2, h3⟩
        · exact .inl (r.mono gs)
        · exact .inr ⟨b, u, e', h1, h2.mono gs, fun ⟨j, m, f, z, z'⟩ => h3.1 ⟨j, m, f, ol _ _ _ z, z'⟩, h3.2⟩
      | par d => exact q
      | nst fs d => obtain ⟨v, e, r⟩ := q; exact ⟨v, e, r.mono gs⟩
      | obj m f =>
        obtain ⟨b, u, e, k1, k2, k3, k4⟩ := q
        have nb : b ≠ a := by rintro rfl; exact ne m f rfl e
        exact ⟨b, u, e, k1, k2.mono gs, by rw [upd_ne nb]; exact k3, k4⟩
    · exact ⟨_, e, rp⟩
theorem fz_ok2 {B : Bs} {L0 L L' : LS} {σ : St} {H0 G0 H G : Hp} (E0 : EnvOk B L0 σ H0 G0) (E : EnvOk B L σ H G) (S : Stp L0 σ H0 G0 L H G) {v : V} {r : R} {d : D} (h : RR B.K H0 L σ H G v r) (p : fz L r = some (d, L')) :
    ∃ G', Stp L0 σ H0 G0 L' H G' ∧ EnvOk B L' σ H G' ∧ Rp B.K G' v d ∧ ∀ a o, G a = some o → G' a = some o := by
  have b0 : ∀ {a}, H0 a = none → B.H0 a = none := fun {a} k => by
    cases q : B.H0 a with
    | none => rfl
    | some u => exact absurd k (E0.dom a (some_ne q))
  have stp : ∀ {a o}, G a = none → (H0 a = none ∨ ObjAt L0 σ a) → (∀ (i : Nat) (m : Md) (e : D), L'[i]? = some (.obj m e) → L[i]? = some (.obj m e)) → Stp L0 σ H0 G0 L' H (upd G a o) := fun {a o} ga hb ol =>
    ⟨fun b u k => upd_keep ga b u (S.gsub b u k), fun b u k => by
      by_cases e : b = a
      · subst e; exact .inr hb
      · rw [upd_ne e] at k; exact S.gnew b u k, S.keep, S.dom, fun i m e k => S.own i m e (ol i m e k)⟩
  cases r with
  | v e => cases p; exact ⟨G, S, E, h, fun _ _ q => q⟩
  | t e =>
    cases p
    obtain ⟨a, o, rfl, h2, h3, h4, h5, h6⟩ := h
    obtain ⟨E', rp⟩ := E.freeze h2 h3 h4 (b0 h5) (L' := L) rfl fun i x k => .inl ⟨k, fun m e z q => h6 ⟨i, m, e, z ▸ k, q⟩⟩
    exact ⟨_, stp h4 (.inl h5) fun _ _ _ k => k, E', rp, upd_keep h4⟩
  | s i =>
    have h' : σ[i]? = some (some v) := h
    simp only [fz] at p
    split at p
    · rename_i e q; cases p; obtain ⟨w, e1, e2⟩ := E.at_ i _ q; rw [h'] at e1; cases e1; exact ⟨G, S, E, e2, fun _ _ q => q⟩
    · rename_i e q; cases p
      obtain ⟨a, o, e1, e2, e3, e4, e5⟩ := E.at_ i _ q
      rw [h'] at e1; cases e1
      have ol : ∀ (j : Nat) (m : Md) (f : D), (L.set i (.val d))[j]? = some (.obj m f) → L[j]? = some (.obj m f) ∧ j ≠ i := fun j m f k => by
        by_cases c : i = j
        · subst c
          have hi : i < L.length := (List.getElem?_eq_some_iff.mp q).1
          rw [List.getElem?_set_self hi] at k; cases k
        · rw [List.getElem?_set_ne c] at k
          exact ⟨k, fun z => c z.symm⟩
      obtain ⟨E', rp⟩ := E.freeze (L' := L.set i (.val d)) e2 e3 e4 e5 (List.length_set ..) fun j x k => by
        by_cases c : i = j
        · subst c
          have hi : i < L.length := (List.getElem?_eq_some_iff.mp q).1
          rw [List.getElem?_set_self hi] at k; cases k
          exact .inr ⟨rfl, h'⟩
        · rw [List.getElem?_set_ne c] at k
          refine .inl ⟨k, fun m e z w => c ?_⟩
          subst z
          exact E.inj _ _ _ _ _ _ _ q k h' w
      refine ⟨_, stp e4 (.inr ?_) fun j m f k => (ol j m f k).1, E', rp, upd_keep e4⟩
      obtain ⟨f, k⟩ := S.own i _ _ q
      exact ⟨i, _, f, k, h'⟩
    · cases p
theorem fz_ok {B : Bs} {L0 L L' : LS} {σ : St} {H0 G0 H G : Hp} (E0 : EnvOk B L0 σ H0 G0) (E : EnvOk B L σ H G) (S : Stp L0 σ H0 G0 L H G) {v : V} {r : R} {d : D} (h : RR B.K H0 L σ H G v r) (p : fz L r = some (d, L')) :
    ∃ G', Stp L0 σ H0 G0 L' H G' ∧ EnvOk B L' σ H G' ∧ Rp B.K G' v d := let ⟨G', a, b, c, _⟩ := fz_ok2 E0 E S h p; ⟨G', a, b, c⟩
end DV
end
section
set_option Elab.async false
set_option linter.all false
set_option maxRecDepth 100000
set_option maxHeartbeats 4000000
namespace DV
open PySem PySem.Spec PyProof.Rows L2
def Rs.bind {α β : Type} : Rs α → (α → LS → Rs β) → Rs β
  | .ok x L, k => k x L
  | .exc e L, _ => .exc e L
  | .stuck, _ => .stuck
@[simp] theorem Rs.bind_ok {α β : Type} (x : α) (L : LS) (k : α → LS → Rs β) : (Rs.ok x L).bind k = k x L := rfl
@[simp] theorem Rs.bind_exc {α β : Type} (e : Ex) (L : LS) (k : α → LS → Rs β) : (Rs.exc e L : Rs α).bind k = .exc e L := rfl
@[simp] theorem Rs.bind_stuck {α β : Type} (k : α → LS → Rs β) : (Rs.stuck : Rs α).bind k = .stuck := rfl
abbrev DE := LS → Rs R
abbrev DT := LS → Rs Bool
abbrev DA := LS → Rs (List R)
def ExR (K : PySem.W.Frag) (H G : Hp) (C : Value) (dx : Option Addr) (e : Ex) : Prop :=
  C = .ref (He.ga K e.cls) ∧ ((dx = none ∧ e.fs = []) ∨ ∃ d fvs, dx = some d ∧ G d = some (.xd fvs) ∧ fvs.map (·.1) = e.fs.map (·.1) ∧ Rps K G (fvs.map (·.2)) (e.fs.map (·.2)))
def PostG {α β : Type} (rel : LS → Hp → Hp → β → α → Prop) (B : Bs) (L : LS) (σ : St) (H G : Hp) (res : Rs α) (Q : β → Hp → Prop) (E : XK) : Prop :=
  match res with
  | .ok r L' => ∀ v H' G', Stp L σ H G L' H' G' → EnvOk B L' σ H' G' → rel L' H' G' v r → Q v H'
  | .exc e L' => ∀ C dx H' G', Stp L σ H G L' H' G' → EnvOk B L' σ H' G' → ExR B.K H' G' C dx e → E C dx H'
  | .stuck => False
theorem PostG.next {α β α' β' : Type} {rel1 : LS → Hp → Hp → β → α → Prop} {rel2 : LS → Hp → Hp → β' → α' → Prop} {B : Bs} {L L1 : LS} {σ : St} {H G H1 G1 : Hp} {res : Rs α} {k : α → LS → Rs α'} {Q : β' → Hp → Prop} {Q1 : β → Hp → Prop} {E : XK}
    (h : PostG rel2 B L σ H G (res.bind k) Q E) (S : Stp L σ H G L1 H1 G1)
    (hk : ∀ r L' v H' G', Stp L1 σ H1 G1 L' H' G' → EnvOk B L' σ H' G' → rel1 L' H' G' v r → PostG rel2 B L σ H G (k r L') Q E → Q1 v H') : PostG rel1 B L1 σ H1 G1 res Q1 E := by
  cases res with
  | ok r L' => exact fun v H' G' S' E' R' => hk r L' v H' G' S' E' R' h
  | exc e L' => exact fun C dx H' G' S' E' R' => h C dx H' G' (S.trans S') E' R'
  | stuck => exact h
/-- the same, where the value is handed on as it is -/
theorem PostG.last {α β : Type} {rel1 rel2 : LS → Hp → Hp → β → α → Prop} {B : Bs} {L L1 : LS} {σ : St} {H G H1 G1 : Hp} {res : Rs α} {Q Q1 : β → Hp → Prop} {E : XK}
    (h : PostG rel2 B L σ H G res Q E) (S : Stp L σ H G L1 H1 G1)
    (hk : ∀ r L' v H' G', Stp L1 σ H1 G1 L' H' G' → EnvOk B L' σ H' G' → rel1 L' H' G' v r → rel2 L' H' G' v r ∧ ∀ x, Q x H' → Q1 x H') : PostG rel1 B L1 σ H1 G1 res Q1 E := by
  cases res with
  | ok r L' => exact fun v H' G' S' E' R' => let ⟨a, b⟩ := hk r L' v H' G' S' E' R'; b v (h v H' G' (S.trans S') E' a)
  | exc e L' => exact fun C dx H' G' S' E' R' => h C dx H' G' (S.trans S') E' R'
  | stuck => exact h
def relR (K : PySem.W.Frag) (Hs : Hp) (σ : St) : LS → Hp → Hp → V → R → Prop := fun L H G v r => RR K Hs L σ H G v r
def relB : LS → Hp → Hp → Bool → Bool → Prop := fun _ _ _ b c => b = c
def RRs (K : PySem.W.Frag) (Hs : Hp) (L : LS) (σ : St) (H G : Hp) : List V → List R → Prop := fun vs rs => Paired (RR K Hs L σ H G) vs rs
def relDs (K : PySem.W.Frag) : LS → Hp → Hp → List V → List D → Prop := fun L H G v d => Rps K G v d
def tD (K : PySem.W.Frag) (E : XK) (f : DE) : TE := fun σ H Q => ∃ B L G, B.K = K ∧ EnvOk B L σ H G ∧ PostG (relR B.K H σ) B L σ H G (f L) Q E
def tDT (K : PySem.W.Frag) (E : XK) (f : DT) : TT := fun σ H Q => ∃ B L G, B.K = K ∧ EnvOk B L σ H G ∧ PostG relB B L σ H G (f L) Q E
/-- an argument list, each value frozen -/
def tDs (K : PySem.W.Frag) (E : XK) (f : LS → Rs (List D)) : TA := fun σ H Q => ∃ B L G, B.K = K ∧ EnvOk B L σ H G ∧ PostG (relDs B.K) B L σ H G (f L) Q E
def DEx (X : Cx) (E : XK) (e : Expr) (f : DE) : Prop := PE X e (tD X.K E f)
def DTx (X : Cx) (E : XK) (e : Expr) (f : DT) : Prop := PT X e (tDT X.K E f)
def DFx (X : Cx) (E : XK) (es : List Expr) (f : LS → Rs (List D)) : Prop := PA X es (tDs X.K E f)
theorem PE.imp {X : Cx} {e : Expr} {t t' : TE} (h : PE X e t) (k : ∀ σ H Q, t' σ H Q → t σ H Q) : PE X e t' := ⟨fun pins s σ H Q I q => h.run pins s σ H Q I (k σ H Q q)⟩
theorem PT.imp {X : Cx} {e : Expr} {t t' : TT} (h : PT X e t) (k : ∀ σ H Q, t' σ H Q → t σ H Q) : PT X e t' := ⟨fun pins s σ H Q I q => h.run pins s σ H Q I (k σ H Q q)⟩
theorem PA.imp {X : Cx} {e : List Expr} {t t' : TA} (h : PA X e t) (k : ∀ σ H Q, t' σ H Q → t σ H Q) : PA X e t' := ⟨fun p pins s σ H Q I q => h.run p pins s σ H Q I (k σ H Q q)⟩
/-! ### names, constants -/
def dVar (i : Nat) : DE := fun L => match L[i]? with
  | some (.val d) => .ok (.v d) L
  | some (.bor _) => .ok (.s i) L
  | some (.par d) => .ok (.v d) L
  | some (.nst _ ds) => .ok (.v (.lst ds)) L
  | some (.obj _ _) => .ok (.s i) L
  | _ => .stuck
def dC (d : D) : DE := fun L => .ok (.v d) L
section
variable {X : Cx} {E : XK} {e a b c : Expr} {pos : Pos} {f fa fb fc : DE}
theorem de_of_var {i : Nat} (h : PE X e (tVar i)) : DEx X E e (dVar i) := PE.imp h fun σ H Q ⟨B, L, G, hK, E0, P⟩ => by
  unfold dVar at P
  split at P
  · rename_i d q
    obtain ⟨v, e1, e2⟩ := E0.at_ i _ q
    exact ⟨v, e1, P v H G .refl E0 e2⟩
  · rename_i d q
    obtain ⟨v, e1, e2⟩ := E0.at_ i _ q
    exact ⟨v, e1, P v H G .refl E0 e1⟩
  · rename_i d q
    obtain ⟨v, e1, e2⟩ := E0.at_ i _ q
    exact ⟨v, e1, P v H G .refl E0 (e2.mono E0.old)⟩
  · rename_i fs ds q
    obtain ⟨v, e1, a, vs, rfl, e2, e3, _⟩ := E0.at_ i _ q
    exact ⟨_, e1, P _ H G .refl E0 (.lst e2 e3)⟩
  · rename_i m d q
    obtain ⟨a, o, e1, e2⟩ := E0.at_ i _ q
    exact ⟨_, e1, P _ H G .refl E0 e1⟩
  · exact P.elim
theorem dv (i : Nat) {x : Str} {pos : Pos} (hN : X.N[i]? = some x := by rfl) (hv : Vis X.env.scope x := by first | exact Or.inl rfl | exact Or.inr (Or.inl rfl) | exact Or.inr (Or.inr rfl)) (hd : (x == ("__debug__" : Str)) = false := by decide)
    (hcd : (x == ("__classdict__" : Str)) = false := by decide) : DEx X E (.Name x pos) (dVar i) := de_of_var (pe_var hN hv hd hcd)
theorem de_const {v : V} {d : D} (h : PE X e (tC v)) (r : ∀ K G, Rp K G v d) : DEx X E e (dC d) := PE.imp h fun σ H Q ⟨B, L, G, hK, E0, P⟩ => P v H G .refl E0 (r _ _)
theorem de_int {i j pos} : DEx X E (.Constant (.int i) j pos) (dC (.int i)) := de_const pe_int fun _ _ => .int i
theorem de_bl {i j pos} : DEx X E (.Constant (.bool i) j pos) (dC (.bl i)) := de_const pe_bl fun _ _ => .bl i
theorem de_non {j pos} : DEx X E (.Constant .none j pos) (dC .non) := de_const pe_non fun _ _ => .non
theorem de_str {x j pos} : DEx X E (.Constant (.str x) j pos) (dC (.str x)) := de_const pe_str fun _ _ => .str x
/-! ### operators by values -/
abbrev GOp := D → D → Option R
def NoS : R → Prop
  | .s _ => False
  | _ => True
def OpSnd (K : PySem.W.Frag) (r : R2) (g : GOp) : Prop := ∀ (B : Bs) (L : LS) (σ : St) (H G : Hp) (x y : V) (d e : D) (res : R) (Q : VK), B.K = K → EnvOk B L σ H G → RpN K H G x d → RpN K H G y e → g d e = some res →
  (∀ v H' G', Stp L σ H G L H' G' → EnvOk B L σ H' G' → RR K H L σ H' G' v res → Q v H') → r x y H Q
def on2 (g : GOp) (r1 r2 : R) (L : LS) : Rs R := match peek L r1, peek L r2 with
  | some d, some e => match g d e with
    | some res => .ok res L
    | none => .stuck
  | _, _ => .stuck
def dOp (g : GOp) (fa fb : DE) : DE := fun L => (fa L).bind fun r1 L1 => (fb L1).bind fun r2 L2 => on2 g r1 r2 L2
theorem on2_ok {K : PySem.W.Frag} {r : R2} {g : GOp} (sn : OpSnd K r g) {B : Bs} {L L2 : LS} {σ : St} {H G H2 G2 H1 Ha : Hp} {v1 v2 : V} {r1 r2 : R} {Q : VK} (hK : B.K = K)
    (P : PostG (relR B.K H σ) B L σ H G (on2 g r1 r2 L2) Q E) (S : Stp L σ H G L2 H2 G2) (E2 : EnvOk B L2 σ H2 G2) (R1 : RR B.K Ha L2 σ H2 G2 v1 r1) (R2 : RR B.K H1 L2 σ H2 G2 v2 r2) : r v1 v2 H2 Q := by
  subst hK
  unfold on2 at P
  split at P
  · rename_i d e p1 p2
    split at P
    · rename_i res hg
      exact sn B L2 σ H2 G2 v1 v2 d e res Q rfl E2 (peek_ok E2 R1 p1) (peek_ok E2 R2 p2) hg fun v H' G' S' E' R' => P v H' G' (S.trans S') E' (RR.base S.dom R')
    · exact P.elim
  · exact P.elim
theorem tOp_of {r : R2} {g : GOp} (sn : OpSnd X.K r g) {σ : St} {H : Hp} {Q : VK} (h : tD X.K E (dOp g fa fb) σ H Q) : tOp r (tD X.K E fa) (tD X.K E fb) σ H Q := by
  obtain ⟨B, L, G, hK, E0, P⟩ := h
  refine ⟨B, L, G, hK, E0, PostG.next P .refl fun r1 L1 v1 H1 G1 S1 E1 R1 P1 => ?_⟩
  refine ⟨B, L1, G1, hK, E1, PostG.next P1 S1 fun r2 L2 v2 H2 G2 S2 E2 R2 P2 => ?_⟩
  exact on2_ok sn hK P2 (S1.trans S2) E2 (S2.rr R1) R2
theorem de_op {op : Operator} {r : R2} {g : GOp} (ho : OpR X (binaryOp op) r) (sn : OpSnd X.K r g) (ha : DEx X E a fa) (hb : DEx X E b fb) : DEx X E (.BinOp a op b pos) (dOp g fa fb) :=
  PE.imp (pe_op ho ha hb) fun _ _ _ h => tOp_of sn h
theorem de_cmp {op : CmpOp} {r : R2} {g : GOp} (ho : OpR X (compareOp op) r) (sn : OpSnd X.K r g) (ha : DEx X E a fa) (hb : DEx X E b fb) (hm : behindInMarks op b = false) : DEx X E (.Compare a [op] [b] pos) (dOp g fa fb) :=
  PE.imp (pe_cmpR ho ha hb hm) fun _ _ _ h => tOp_of sn h
theorem de_ix {r : R2} {g : GOp} (ho : IxR X r) (sn : OpSnd X.K r g) (ha : DEx X E a fa) (hb : DEx X E b fb) (hs : PlainIx b) : DEx X E (.Subscript a b pos) (dOp g fa fb) :=
  PE.imp (pe_ix ho ha hb hs) fun _ _ _ h => tOp_of sn h
theorem OpSnd.or {K : PySem.W.Frag} {r r' : R2} {g g' : GOp} (h : OpSnd K r g) (h' : OpSnd K r' g') : OpSnd K (fun x y H Q => r x y H Q ∨ r' x y H Q) (fun d e => (g d e).or (g' d e)) := by
  intro B L σ H G x y d e res Q hK E0 hx hy hg hQ
  cases q : g d e with
  | some u => 
    have e1 : u = res := by simpa [q] using hg
    subst e1
    exact .inl (h B L σ H G x y d e _ Q hK E0 hx hy q hQ)
  | none => exact .inr (h' B L σ H G x y d e _ Q hK E0 hx hy (by simpa [q] using hg) hQ)
/-! ### tests -/
def dTest (f : DE) : DT := fun L => (f L).bind fun r L1 => match peek L1 r with
  | some (.bl b) => .ok b L1
  | _ => .stuck
theorem tTest_of {t : TE} {σ : St} {H : Hp} {Q : Bool → Hp → Prop} (k : ∀ Q, tD X.K E f σ H Q → t σ H Q) (h : tDT X.K E (dTest f) σ H Q) : tTest t σ H Q := by
  obtain ⟨B, L, G, hK, E0, P⟩ := h
  refine k _ ⟨B, L, G, hK, E0, PostG.next P .refl fun r1 L1 v1 H1 G1 S1 E1 R1 P1 => ?_⟩
  split at P1
  · rename_i b p
    exact ⟨b, (peek_ok E1 R1 p).bl, P1 b H1 G1 S1 E1 rfl⟩
  · exact P1.elim
theorem dt_cmp {op : CmpOp} {r : R2} {g : GOp} (ho : OpR X (compareOp op) r) (sn : OpSnd X.K r g) (ha : DEx X E a fa) (hb : DEx X E b fb) (hm : behindInMarks op b = false) : DTx X E (.Compare a [op] [b] pos) (dTest (dOp g fa fb)) :=
  PT.imp (pt_cmpR ho ha hb hm) fun _ _ _ h => tTest_of (fun _ => tOp_of sn) h
theorem dt_val (ha : DEx X E a f) (he : ∀ whole, isTrue a X.env whole = (do let v ← whole; standAt a.pos; holding [v] (truthy v)) := by intro _; rfl) : DTx X E a (dTest f) :=
  PT.imp (pt_val ha he) fun _ _ _ h => tTest_of (fun _ q => q) h
def dNotT (f : DT) : DT := fun L => (f L).bind fun b L1 => .ok (!b) L1
def dAndT (f g : DT) : DT := fun L => (f L).bind fun b L1 => if b = true then g L1 else .ok false L1
def dOrT (f g : DT) : DT := fun L => (f L).bind fun b L1 => if b = true then .ok true L1 else g L1
theorem dt_not {f : DT} (h : DTx X E a f) : DTx X E (.UnaryOp .Not a pos) (dNotT f) := PT.imp (pt_not h) fun σ H Q ⟨B, L, G, hK, E0, P⟩ =>
  ⟨B, L, G, hK, E0, PostG.next P .refl fun r1 L1 v1 H1 G1 S1 E1 R1 P1 => by
    cases (show v1 = r1 from R1)
    exact P1 _ H1 G1 S1 E1 rfl⟩
def DWx (X : Cx) (E : XK) (e : Expr) (f : DT) : Prop := PW X e (tDT X.K E f)
theorem PW.imp {X : Cx} {e : Expr} {t t' : TT} (h : PW X e t) (k : ∀ σ H Q, t' σ H Q → t σ H Q) : PW X e t' := ⟨fun w pins s σ H Q I q => h.run w pins s σ H Q I (k σ H Q q)⟩
theorem dw_or1 {f : DT} (h : DTx X E a f) : DWx X E (.BoolOp .Or [a] pos) f := pw_or1 h
theorem DWx.pt {f : DT} (h : DWx X E a f) : DTx X E a f := L2.PW.pt h
theorem dw_or {f g : DT} {rest : List Expr} (ha : DTx X E a f) (hb : DWx X E (.BoolOp .Or (b :: rest) pos) g) : DWx X E (.BoolOp .Or (a :: b :: rest) pos) (dOrT f g) :=
  PW.imp (pw_or ha hb) fun σ H Q ⟨B, L, G, hK, E0, P⟩ => ⟨B, L, G, hK, E0, PostG.next P .refl fun r1 L1 v1 H1 G1 S1 E1 R1 P1 => by
    have e1 : v1 = r1 := R1
    subst e1
    cases v1 with
    | false => exact ⟨B, L1, G1, hK, E1, PostG.last (rel2 := relB) P1 S1 fun r L' v H' G' S' E' R' => ⟨R', fun _ q => q⟩⟩
    | true => exact P1 _ H1 G1 S1 E1 rfl⟩
/-! .. as values -/
def blOf (f : DE) (k : Bool → LS → Rs R) : DE := fun L => (f L).bind fun r L1 => match peek L1 r with
  | some (.bl b) => k b L1
  | _ => .stuck
def dAndV (f g : DE) : DE := blOf f fun b L1 => if b = true then g L1 else .ok (.v (.bl false)) L1
def dOrV (f g : DE) : DE := blOf f fun b L1 => if b = true then .ok (.v (.bl true)) L1 else g L1
def dNotV (f : DE) : DE := blOf f fun b L1 => .ok (.v (.bl (!b))) L1
theorem de_one {op} (h : DEx X E a f) : DEx X E (.BoolOp op [a] pos) f := pe_one h
theorem de_and {rest : List Expr} {fb : DE} (ha : DEx X E a fa) (hb : DEx X E (.BoolOp .And (b :: rest) pos) fb) : DEx X E (.BoolOp .And (a :: b :: rest) pos) (dAndV fa fb) :=
  PE.imp (pe_and ha hb) fun σ H Q ⟨B, L, G, hK, E0, P⟩ => ⟨B, L, G, hK, E0, PostG.next P .refl fun r1 L1 v1 H1 G1 S1 E1 R1 P1 => by
    split at P1
    · rename_i c p
      refine ⟨c, (peek_ok E1 R1 p).bl, ?_⟩
      cases c with
      | true => exact ⟨B, L1, G1, hK, E1, PostG.last (rel2 := relR B.K H σ) P1 S1 fun r L' v H' G' S' E' R' => ⟨RR.base S1.dom R', fun _ q => q⟩⟩
      | false => exact P1 _ H1 G1 S1 E1 (.bl false)
    · exact P1.elim⟩
theorem de_not (ha : DEx X E a fa) : DEx X E (.UnaryOp .Not a pos) (dNotV fa) :=
  PE.imp (pe_not ha) fun σ H Q ⟨B, L, G, hK, E0, P⟩ => ⟨B, L, G, hK, E0, PostG.next P .refl fun r1 L1 v1 H1 G1 S1 E1 R1 P1 => by
    split at P1
    · rename_i c p
      exact ⟨c, (peek_ok E1 R1 p).bl, P1 _ H1 G1 S1 E1 (.bl _)⟩
    · exact P1.elim⟩
def dIf (t : DT) (f g : DE) : DE := fun L => (t L).bind fun b L1 => if b = true then f L1 else g L1
theorem de_if {t : DT} (hc : DTx X E c t) (ha : DEx X E a fa) (hb : DEx X E b fb) : DEx X E (.IfExp c a b pos) (dIf t fa fb) :=
  PE.imp (pe_ifExp hc ha hb) fun σ H Q ⟨B, L, G, hK, E0, P⟩ => ⟨B, L, G, hK, E0, PostG.next P .refl fun r1 L1 v1 H1 G1 S1 E1 R1 P1 => by
    have e1 : v1 = r1 := R1
    subst e1
    cases v1 with
    | true => exact ⟨B, L1, G1, hK, E1, PostG.last (rel2 := relR B.K H σ) P1 S1 fun r L' v H' G' S' E' R' => ⟨RR.base S1.dom R', fun _ q => q⟩⟩
    | false => exact ⟨B, L1, G1, hK, E1, PostG.last (rel2 := relR B.K H σ) P1 S1 fun r L' v H' G' S' E' R' => ⟨RR.base S1.dom R', fun _ q => q⟩⟩⟩
/-- a chain a < b < c -/
def dChain (g g' : GOp) (fa fb fc : DE) : DE := fun L => (fa L).bind fun r1 L1 => (fb L1).bind fun r2 L2 => match peek L2 r1, peek L2 r2 with
  | some d, some e => match g d e with
    | some (.v (.bl k)) => if k = true then (fc L2).bind fun r3 L3 => on2 g' r2 r3 L3 else .ok (.v (.bl false)) L2
    | _ => .stuck
  | _, _ => .stuck
end
end DV
end
section
set_option Elab.async false
set_option linter.all false
set_option maxRecDepth 100000
set_option maxHeartbeats 4000000
namespace DV
open PySem PySem.Spec PyProof.Rows L2
/-! ### data of the model -/
mutual
def D.py : D → Option PyData
  | .non => some .none
  | .bl b => some (.bool b)
  | .int i => some (.int i)
  | .str x => some (.str x)
  | .lst xs => (pys xs).map .list
  | .tup xs => (pys xs).map .tuple
  | _ => none
def pys : List D → Option (List PyData)
  | [] => some []
  | d :: ds => (D.py d).bind fun p => (pys ds).map fun ps => p :: ps
end
mutual
theorem Rp.dp {K : PySem.W.Frag} {G : Hp} : ∀ {v : V} {d : D} {p : PyData}, Rp K G v d → d.py = some p → Dp K G v p
  | _, _, _, .non, e => by cases e; exact .non
  | _, _, _, .bl b, e => by cases e; exact .bl b
  | _, _, _, .int i, e => by cases e; exact .int i
  | _, _, _, .str x, e => by cases e; exact .str x
  | _, _, _, .opq v, e => by cases e
  | _, _, _, .lst r q, e => by
    simp only [D.py, Option.map_eq_some_iff] at e
    obtain ⟨ps, e, rfl⟩ := e
    exact .lst (.of r) (Rps.dps q e)
  | _, _, _, .tup r q, e => by
    simp only [D.py, Option.map_eq_some_iff] at e
    obtain ⟨ps, e, rfl⟩ := e
    exact .tup (.of r) (Rps.dps q e)
  | _, _, _, .dct r h q, e => by cases e
  | _, _, _, .dctT r h q, e => by cases e
  | _, _, _, .scr r, e => by cases e
  | _, _, _, .fd r h q, e => by cases e
theorem Rps.dps {K : PySem.W.Frag} {G : Hp} : ∀ {vs : List V} {ds : List D} {ps : List PyData}, Rps K G vs ds → pys ds = some ps → DpAll K G vs ps
  | _, _, _, .nil, e => by cases e; exact .nil
  | _, _, _, .cons r q, e => by
    simp only [pys, Option.bind_eq_some_iff, Option.map_eq_some_iff] at e
    obtain ⟨p, e1, ps, e2, rfl⟩ := e
    exact .cons (Rp.dp r e1) (Rps.dps q e2)
end
mutual
theorem Dp.mono {K : PySem.W.Frag} {G G' : Hp} (h : ∀ a o, G a = some o → G' a = some o) : ∀ {v : V} {d : PyData}, Dp K G v d → Dp K G' v d
  | _, _, .non => .non
  | _, _, .bl b => .bl b
  | _, _, .int i => .int i
  | _, _, .str x => .str x
  | _, _, .lst r q => .lst (Same.seq h r) (DpAll.mono h q)
  | _, _, .tup r q => .tup (by
      rcases r with (r | ⟨o, r⟩) | r
      · exact .inl (.inl (h _ _ r))
      · exact .inl (.inr ⟨o, h _ _ r⟩)
      · exact .inr r) (DpAll.mono h q)
theorem DpAll.mono {K : PySem.W.Frag} {G G' : Hp} (h : ∀ a o, G a = some o → G' a = some o) : ∀ {vs : List V} {ds : List PyData}, DpAll K G vs ds → DpAll K G' vs ds
  | _, _, .nil => .nil
  | _, _, .cons r q => .cons (Dp.mono h r) (DpAll.mono h q)
end
theorem RpN.dp {K : PySem.W.Frag} {H G : Hp} (sb : ∀ a o, G a = some o → H a = some o) {v : V} {d : D} {p : PyData} (h : RpN K H G v d) (e : d.py = some p) : Dp K H v p := by
  rcases h with h | ⟨a, o, e', h1, h2⟩
  · exact Dp.mono sb (h.dp e)
  · subst e'
    cases h2 with
    | lst q =>
      simp only [D.py, Option.map_eq_some_iff] at e
      obtain ⟨ps, e, rfl⟩ := e
      exact .lst (.of h1) (DpAll.mono sb (q.dps e))
    | dct _ _ => cases e
    | dctT _ _ => cases e
section
variable {K : PySem.W.Frag}
/-! ### ints -/
def gII (f : Int → Int → D) : GOp := fun d e => match d, e with
  | .int i, .int j => some (.v (f i j))
  | _, _ => none
def gIC (C : Int → Int → Bool) (f : Int → Int → D) : GOp := fun d e => match d, e with
  | .int i, .int j => if C i j = true then some (.v (f i j)) else none
  | _, _ => none
inductive Pl : V → D → Prop
  | int (i : Int) : Pl (.int i) (.int i)
  | bl (b : Bool) : Pl (.bl b) (.bl b)
  | str (x : Str) : Pl (.str x) (.str x)
  | non : Pl .non .non
theorem Pl.rp {G : Hp} {v : V} {d : D} : Pl v d → Rp K G v d
  | .int i => .int i
  | .bl b => .bl b
  | .str x => .str x
  | .non => .non
theorem snd_II {g : Int → Int → V} {f : Int → Int → D} (h : ∀ i j, Pl (g i j) (f i j)) : OpSnd K (rI0 g) (gII f) := by
  intro B L σ H G x y d e res Q hK E0 hx hy hg hQ
  unfold gII at hg
  split at hg
  · rename_i i j
    cases hg
    exact ⟨i, j, hx.int, hy.int, hQ _ H G .refl E0 (h i j).rp⟩
  · cases hg
theorem snd_IC {Cp : Int → Int → Prop} {C : Int → Int → Bool} {g : Int → Int → V} {f : Int → Int → D} (h : ∀ i j, Pl (g i j) (f i j)) (hc : ∀ i j, C i j = true → Cp i j) : OpSnd K (rI Cp g) (gIC C f) := by
  intro B L σ H G x y d e res Q hK E0 hx hy hg hQ
  unfold gIC at hg
  split at hg
  · rename_i i j
    split at hg
    · rename_i c
      cases hg
      exact ⟨i, j, hx.int, hy.int, hc i j c, hQ _ H G .refl E0 (h i j).rp⟩
    · cases hg
  · cases hg
abbrev gSub : GOp := gII fun i j => .int (i - j)
theorem snd_sub : OpSnd K (rI0 fun i j => .int (i - j)) gSub := snd_II fun _ _ => .int _
def mulOk (i j : Int) : Bool := decide (i.natAbs < 2 ^ 64) || decide (j.natAbs < 2 ^ 64) || decide (i.natAbs.log2 + j.natAbs.log2 < 1000000)
abbrev gMulI : GOp := gIC mulOk fun i j => .int (i * j)
theorem op_mulA {X : Cx} : OpR X (binaryOp .Mult) (rI (fun i j => CMul i j ∨ CMulW i j) fun i j => .int (i * j)) := opI fun _ _ _ _ _ _ _ hc q => mul_int q (hc.elim CMul.ok CMulW.ok)
theorem snd_mulI : OpSnd K (rI (fun i j => CMul i j ∨ CMulW i j) fun i j => .int (i * j)) gMulI := snd_IC (fun _ _ => .int _) fun i j h => by
  unfold mulOk at h
  simp only [Bool.or_eq_true, decide_eq_true_eq] at h
  rcases h with (h | h) | h
  · exact .inl (.inl ⟨by omega, by omega⟩)
  · exact .inl (.inr ⟨by omega, by omega⟩)
  · exact .inr h
def divOk (_ j : Int) : Bool := decide (0 < j) && decide (j < 2 ^ 64)
abbrev gFdiv : GOp := gIC divOk fun i j => .int (i / j)
theorem snd_fdiv : OpSnd K (rI CDivW fun i j => .int (i / j)) gFdiv := snd_IC (fun _ _ => .int _) fun i j h => by
  unfold divOk at h
  simp only [Bool.and_eq_true, decide_eq_true_eq] at h
  exact wide_div (b := 64) h.1 (by omega) (by omega) (by omega)
def posOk (_ j : Int) : Bool := decide (0 < j)
abbrev gMod : GOp := gIC posOk fun i j => .int (i % j)
theorem snd_mod : OpSnd K (rI (fun _ j => 0 < j) fun i j => .int (i % j)) gMod := snd_IC (fun _ _ => .int _) fun i j h => of_decide_eq_true h
def powOk (i j : Int) : Bool := decide (0 ≤ j) && decide (j ≤ 1000) && decide (i.natAbs < 2 ^ 64)
abbrev gPow : GOp := gIC powOk fun i j => .int (i ^ j.toNat)
theorem snd_pow : OpSnd K (rI CPow fun i j => .int (i ^ j.toNat)) gPow := snd_IC (fun _ _ => .int _) fun i j h => by
  unfold powOk at h
  simp only [Bool.and_eq_true, decide_eq_true_eq] at h
  exact ⟨h.1.1, by omega, h.2⟩
abbrev gLt : GOp := gII fun i j => .bl (decide (i < j))
abbrev gLe : GOp := gII fun i j => .bl (decide (i ≤ j))
abbrev gGt : GOp := gII fun i j => .bl (decide (j < i))
abbrev gGe : GOp := gII fun i j => .bl (decide (j ≤ i))
theorem snd_lt : OpSnd K (rI0 fun i j => .bl (decide (i < j))) gLt := snd_II fun _ _ => .bl _
theorem snd_gt : OpSnd K (rI0 fun i j => .bl (decide (j < i))) gGt := snd_II fun _ _ => .bl _
theorem snd_ge : OpSnd K (rI0 fun i j => .bl (decide (j ≤ i))) gGe := snd_II fun _ _ => .bl _
/-! ### == by data -/
def gEqB (neg : Bool) : GOp := fun d e => match d.py, e.py with
  | some p, some q => if (SeqAt.shaped p && SeqAt.shaped q) = true then some (.v (.bl (if neg then !PyData.eqv p q else PyData.eqv p q))) else none
  | _, _ => none
abbrev gEq : GOp := gEqB false
abbrev gNe : GOp := gEqB true
theorem snd_eqB (neg : Bool) : OpSnd K (fun x y H Q => ∃ d e, Dp K H x d ∧ Dp K H y e ∧ SeqAt.shaped d = true ∧ SeqAt.shaped e = true ∧ Q (.bl (if neg then !PyData.eqv d e else PyData.eqv d e)) H) (gEqB neg) := by
  intro B L σ H G x y d e res Q hK E0 hx hy hg hQ
  unfold gEqB at hg
  split at hg
  · rename_i p q h1 h2
    split at hg
    · rename_i c
      cases hg
      rw [Bool.and_eq_true] at c
      exact ⟨p, q, hx.dp E0.sub h1, hy.dp E0.sub h2, c.1, c.2, hQ _ H G .refl E0 (.bl _)⟩
    · cases hg
  · cases hg
theorem snd_eq : OpSnd K (rEqD K) gEq := fun B L σ H G x y d e res Q hK E0 hx hy hg hQ => by
  obtain ⟨d, e, h1, h2, h3, h4, q⟩ := snd_eqB false B L σ H G x y d e res Q hK E0 hx hy hg hQ
  exact ⟨d, e, h1, h2, h3, h4, q⟩
theorem snd_ne : OpSnd K (rNeD K) gNe := fun B L σ H G x y d e res Q hK E0 hx hy hg hQ => by
  obtain ⟨d, e, h1, h2, h3, h4, q⟩ := snd_eqB true B L σ H G x y d e res Q hK E0 hx hy hg hQ
  exact ⟨d, e, h1, h2, h3, h4, q⟩
/-! is None; is True | False -/
def D.isNon : D → Option Bool
  | .non => some true
  | .scr _ => none
  | .opq _ => none
  | _ => some false
def gIsN (neg : Bool) : GOp := fun d e => match e with
  | .non => (D.isNon d).map fun b => .v (.bl (if neg then !b else b))
  | _ => none
theorem RpN.isNon {H G : Hp} {v : V} {d : D} {b : Bool} (h : RpN K H G v d) (e : d.isNon = some b) : decide (v = .non) = b := by
  rcases h with h | ⟨a, o, rfl, h1, h2⟩
  · cases h <;> simp [D.isNon] at e <;> subst e <;> simp
  · cases h2 <;> simp [D.isNon] at e <;> subst e <;> simp
theorem snd_isN : OpSnd K (fun x y H Q => y = .non ∧ Q (.bl (decide (x = .non))) H) (gIsN false) := by
  intro B L σ H G x y d e res Q hK E0 hx hy hg hQ
  cases e with
  | non =>
    simp only [gIsN, Option.map_eq_some_iff] at hg
    obtain ⟨b, h1, rfl⟩ := hg
    exact ⟨hy.non, by rw [hx.isNon h1]; exact hQ _ H G .refl E0 (.bl _)⟩
  | _ => cases hg
/-! ### new objects -/
theorem RR.fresh {B : Bs} {L : LS} {σ : St} {H G : Hp} (E0 : EnvOk B L σ H G) {p : Addr} {o : HO} {d : D} (hp : H p = none) (ho : Ob B.K G o d) : EnvOk B L σ (upd H p o) G ∧ Stp L σ H G L (upd H p o) G ∧ RR B.K H L σ (upd H p o) G (.ref p) (.t d) := by
  obtain ⟨E1, S1, g, h0, ha⟩ := E0.laid (o := o) hp
  exact ⟨E1, S1, p, o, rfl, upd_same, ho, g, hp, ha⟩
theorem RR.freshG {B : Bs} {L : LS} {σ : St} {H G : Hp} (E0 : EnvOk B L σ H G) {p : Addr} {vs : List V} {ds : List D} (hp : H p = none) (r : Rps B.K G vs ds) :
    ∃ G', EnvOk B L σ (upd H p (.tup vs)) G' ∧ Stp L σ H G L (upd H p (.tup vs)) G' ∧ Rp B.K G' (.ref p) (.tup ds) := by
  obtain ⟨E1, S1, g, gs⟩ := E0.laidG (o := .tup vs) hp
  exact ⟨_, E1, S1, .tup g (r.mono gs)⟩
/-! ### + -/
def lenOk (n : Nat) : Bool := decide (n ≤ 1000000)
theorem lenOk_line {n : Nat} (h : lenOk n = true) : n ≤ sizeLine := by
  unfold lenOk at h
  have := of_decide_eq_true h
  rw [sizeLine_eq]; omega
def gAdd : GOp := fun d e => match d, e with
  | .int i, .int j => some (.v (.int (i + j)))
  | .str i, .str j => if lenOk (i.length + j.length) = true then some (.v (.str (i ++ j))) else none
  | .lst xs, .lst ys => if lenOk (xs.length + ys.length) = true then some (.t (.lst (xs ++ ys))) else none
  | .tup xs, .tup ys => if lenOk (xs.length + ys.length) = true then some (.v (.tup (xs ++ ys))) else none
  | _, _ => none
def rAddA (K : PySem.W.Frag) : R2 := fun x y H Q => (rI0 (fun i j => .int (i + j)) x y H Q) ∨ (∃ i j, x = .str i ∧ y = .str j ∧ i.length + j.length ≤ sizeLine ∧ Q (.str (i ++ j)) H) ∨ rCat x y H Q ∨ rCatA K x y H Q
theorem op_addA {X : Cx} : OpR X (binaryOp .Add) (rAddA X.K) := op_add.or (op_add_str.or (op_cat.or op_catA))
theorem snd_add : OpSnd K (rAddA K) gAdd := by
  intro B L σ H G x y d e res Q hK E0 hx hy hg hQ
  subst hK
  unfold gAdd at hg
  split at hg
  · cases hg; exact .inl ⟨_, _, hx.int, hy.int, hQ _ H G .refl E0 (.int _)⟩
  · split at hg
    · rename_i c; cases hg
      exact .inr (.inl ⟨_, _, hx.str, hy.str, lenOk_line c, hQ _ H G .refl E0 (.str _)⟩)
    · cases hg
  · split at hg
    · rename_i c; cases hg
      obtain ⟨a, vs, rfl, ha, ra⟩ := hx.lst E0.sub
      obtain ⟨b, ws, rfl, hb, rb⟩ := hy.lst E0.sub
      refine .inr (.inr (.inl ⟨a, b, vs, ws, rfl, rfl, ha, hb, by rw [ra.length, rb.length]; exact lenOk_line c, fun p hp => ?_⟩))
      obtain ⟨E1, S1, R1⟩ := RR.fresh E0 hp (.lst (ra.append rb))
      exact hQ _ _ G S1 E1 R1
    · cases hg
  · split at hg
    · rename_i xs ys c; cases hg
      obtain ⟨a, vs, rfl, ha, ra⟩ := hx.tup E0.sub
      obtain ⟨b, ws, rfl, hb, rb⟩ := hy.tup E0.sub
      have rpx : ∀ {v : V} {ds : List D}, RpN B.K H G v (.tup ds) → Rp B.K G v (.tup ds) := fun {v ds} h => by
        rcases h with h | ⟨_, _, _, _, h2⟩
        · exact h
        · cases h2
      refine .inr (.inr (.inr ⟨a, b, vs, ws, rfl, rfl, .of ha, .of hb, by rw [ra.length, rb.length]; exact lenOk_line c, fun e => ?_, fun _ e => ?_, fun _ _ p hp => ?_⟩))
      · subst e
        have : xs = [] := by cases ra; rfl
        subst this
        exact hQ _ H G .refl E0 (by simpa [RR] using rpx hy)
      · subst e
        have : ys = [] := by cases rb; rfl
        subst this
        exact hQ _ H G .refl E0 (by simpa [RR] using rpx hx)
      · obtain ⟨G', E1, S1, R1⟩ := RR.freshG E0 hp (ra.append rb)
        exact hQ _ _ G' S1 E1 R1
    · cases hg
  · cases hg
/-! * : ints, a list times an int -/
def gMul : GOp := fun d e => match d, e with
  | .int i, .int j => if mulOk i j = true then some (.v (.int (i * j))) else none
  | .lst xs, .int j => if (lenOk (xs.length * j.toNat) && decide (-1000000 ≤ j) && decide (j ≤ 1000000)) = true then some (.t (.lst (List.replicate j.toNat xs).flatten)) else none
  | _, _ => none
def rMulA : R2 := fun x y H Q => (rI (fun i j => CMul i j ∨ CMulW i j) (fun i j => .int (i * j)) x y H Q) ∨ rRep x y H Q
theorem op_mulAA {X : Cx} : OpR X (binaryOp .Mult) rMulA := op_mulA.or op_rep
theorem snd_mul : OpSnd K rMulA gMul := by
  intro B L σ H G x y d e res Q hK E0 hx hy hg hQ
  subst hK
  unfold gMul at hg
  split at hg
  · rename_i i j
    exact .inl (snd_mulI B L σ H G x y _ _ res Q rfl E0 hx hy hg hQ)
  · split at hg
    · rename_i c; cases hg
      obtain ⟨a, vs, rfl, ha, ra⟩ := hx.lst E0.sub
      simp only [Bool.and_eq_true, decide_eq_true_eq] at c
      refine .inr ⟨a, _, vs, rfl, hy.int, ha, by omega, by omega, by rw [ra.length]; exact lenOk_line c.1.1, fun p hp => ?_⟩
      obtain ⟨E1, S1, R1⟩ := RR.fresh E0 hp (.lst (ra.rep _))
      exact hQ _ _ G S1 E1 R1
    · cases hg
  · cases hg
/-! ### x[i] -/
def gIx : GOp := fun d e => match d, e with
  | .lst xs, .int i => (atI xs i).map .v
  | .tup xs, .int i => (atI xs i).map .v
  | .scr xs, .int i => (atI xs i).map fun j => .v (.int j)
  | .str z, .int i => if lenOk z.length = true then (atI z.cps.toList i).map fun c => .v (.str ⟨#[c]⟩) else none
  | _, _ => none
theorem atI_len {α β : Type} {xs : List α} {ys : List β} {i : Int} {x : α} (h : atI xs i = some x) (e : xs.length = ys.length) : ∃ (j : Nat), xs[j]? = some x ∧ ∀ y, ys[j]? = some y → atI ys i = some y := by
  unfold atI at h ⊢
  rw [← e]
  cases q : ixN xs.length i with
  | none => rw [q] at h; cases h
  | some j =>
    rw [q] at h
    exact ⟨j, h, fun y hy => hy⟩
theorem Rps.atI {G : Hp} {vs : List V} {ds : List D} {i : Int} {d : D} (r : Rps K G vs ds) (h : atI ds i = some d) : ∃ v, L2.atI vs i = some v ∧ Rp K G v d := by
  obtain ⟨j, h1, h2⟩ := atI_len (ys := vs) h r.length.symm
  obtain ⟨v, h3, h4⟩ := r.get h1
  exact ⟨v, h2 v h3, h4⟩
theorem snd_ix : OpSnd K (rIx K) gIx := by
  intro B L σ H G x y d e res Q hK E0 hx hy hg hQ
  subst hK
  unfold gIx at hg
  split at hg
  · simp only [Option.map_eq_some_iff] at hg
    obtain ⟨z, h1, rfl⟩ := hg
    obtain ⟨a, vs, rfl, ha, ra⟩ := hx.lst E0.sub
    obtain ⟨v, h2, h3⟩ := ra.atI h1
    exact .inl ⟨a, vs, _, v, rfl, hy.int, .of ha, h2, hQ _ H G .refl E0 h3⟩
  · simp only [Option.map_eq_some_iff] at hg
    obtain ⟨z, h1, rfl⟩ := hg
    obtain ⟨a, vs, rfl, ha, ra⟩ := hx.tup E0.sub
    obtain ⟨v, h2, h3⟩ := ra.atI h1
    exact .inr (.inl ⟨a, vs, _, v, rfl, hy.int, .of ha, h2, hQ _ H G .refl E0 h3⟩)
  · simp only [Option.map_eq_some_iff] at hg
    obtain ⟨z, h1, rfl⟩ := hg
    obtain ⟨a, rfl, ha⟩ := hx.scr E0.sub
    obtain ⟨j, h2, h3⟩ := atI_len (ys := List.map V.int _) h1 (List.length_map ..).symm
    exact .inl ⟨a, _, _, .int z, rfl, hy.int, ha, h3 _ (by rw [List.getElem?_map, h2]; rfl), hQ _ H G .refl E0 (.int z)⟩
  · split at hg
    · rename_i c
      simp only [Option.map_eq_some_iff] at hg
      obtain ⟨z, h1, rfl⟩ := hg
      exact .inr (.inr ⟨_, _, z, hx.str, hy.int, lenOk_line c, h1, hQ _ H G .refl E0 (.str _)⟩)
    · cases hg
  · cases hg
end
end DV
end
section
set_option Elab.async false
set_option linter.all false
set_option maxRecDepth 100000
set_option maxHeartbeats 4000000
namespace DV
open PySem PySem.Spec PyProof.Rows L2
/-! ### argument lists -/
def RRL (K : PySem.W.Frag) (Hs : Hp) (L : LS) (σ : St) (H G : Hp) : List V → List R → Prop
  | [], [] => True
  | v :: vs, r :: rs => RR K Hs L σ H G v r ∧ RRL K Hs L σ H G vs rs ∧ ∀ d, r = .t d → ∀ (k : Nat) e, rs[k]? = some (.t e) → vs[k]? ≠ some v
  | _, _ => False
theorem RRL.base {K : PySem.W.Frag} {L : LS} {σ : St} {H G Hs Ht : Hp} (q : ∀ a, Hs a ≠ none → Ht a ≠ none) : ∀ {vs : List V} {rs : List R}, RRL K Ht L σ H G vs rs → RRL K Hs L σ H G vs rs
  | [], [], h => h
  | _ :: _, _ :: _, ⟨a, b, c⟩ => ⟨RR.base q a, RRL.base q b, c⟩
  | [], _ :: _, h => h.elim
  | _ :: _, [], h => h.elim
theorem RRL.stp {K : PySem.W.Frag} {Hs : Hp} {L L' : LS} {σ : St} {H G H' G' : Hp} (S : Stp L σ H G L' H' G') : ∀ {vs : List V} {rs : List R}, RRL K Hs L σ H G vs rs → RRL K Hs L' σ H' G' vs rs
  | [], [], h => h
  | _ :: _, _ :: _, ⟨a, b, c⟩ => ⟨S.rr a, RRL.stp S b, c⟩
  | [], _ :: _, h => h.elim
  | _ :: _, [], h => h.elim
theorem RRL.temp {K : PySem.W.Frag} {Hs : Hp} {L : LS} {σ : St} {H G : Hp} : ∀ {vs : List V} {rs : List R} {k : Nat} {e : D}, RRL K Hs L σ H G vs rs → rs[k]? = some (.t e) → ∃ a, vs[k]? = some (.ref a) ∧ Hs a = none
  | [], [], k, e, h, q => by simp at q
  | v :: vs, r :: rs, 0, e, ⟨a, b, c⟩, q => by
    simp at q; subst q
    obtain ⟨a, o, rfl, _, _, _, h5, _⟩ := a
    exact ⟨a, rfl, h5⟩
  | v :: vs, r :: rs, k + 1, e, ⟨a, b, c⟩, q => by
    obtain ⟨a, h1, h2⟩ := RRL.temp (k := k) (e := e) b (by simpa using q)
    exact ⟨a, by simpa using h1, h2⟩
  | [], _ :: _, _, _, h, _ => h.elim
  | _ :: _, [], _, _, h, _ => h.elim
def relL (K : PySem.W.Frag) (Hs : Hp) (σ : St) : LS → Hp → Hp → List V → List R → Prop := fun L H G v r => RRL K Hs L σ H G v r
def tDL (K : PySem.W.Frag) (E : XK) (f : DA) : TA := fun σ H Q => ∃ B L G, B.K = K ∧ EnvOk B L σ H G ∧ PostG (relL B.K H σ) B L σ H G (f L) Q E
def DLx (X : Cx) (E : XK) (es : List Expr) (f : DA) : Prop := PA X es (tDL X.K E f)
def dANil : DA := fun L => .ok [] L
def dACons (f : DE) (g : DA) : DA := fun L => (f L).bind fun r L1 => (g L1).bind fun rs L2 => .ok (r :: rs) L2
def dFNil : LS → Rs (List D) := fun L => .ok [] L
def dFCons (f : DE) (g : LS → Rs (List D)) : LS → Rs (List D) := fun L => (f L).bind fun r L1 => match fz L1 r with
  | some (d, L1') => (g L1').bind fun ds L2 => .ok (d :: ds) L2
  | none => .stuck
section
variable {X : Cx} {E : XK} {e a b c : Expr} {es : List Expr} {pos : Pos} {f fa fb fc : DE}
theorem da_nil : DLx X E [] dANil := PA.imp pa_nil fun σ H Q ⟨B, L, G, hK, E0, P⟩ => P [] H G .refl E0 trivial
theorem da_cons {g : DA} (ha : DEx X E e f) (hr : DLx X E es g) (hs : starEach (e :: es) X.env = (false, eval e X.env) :: starEach es X.env := by rfl) : DLx X E (e :: es) (dACons f g) :=
  PA.imp (pa_cons ha hr hs) fun σ H Q ⟨B, L, G, hK, E0, P⟩ => ⟨B, L, G, hK, E0, PostG.next P .refl fun r1 L1 v1 H1 G1 S1 E1 R1 P1 =>
    ⟨B, L1, G1, hK, E1, PostG.next P1 S1 fun rs L2 vs H2 G2 S2 E2 R2 P2 => P2 _ H2 G2 (S1.trans S2) E2 ⟨S2.rr R1, RRL.base S1.dom R2, fun d hd k e' hk hv => by
      subst hd
      obtain ⟨a, h1, h2⟩ := RRL.temp R2 hk
      rw [hv] at h1
      obtain ⟨a', o, e1, e2, _⟩ := R1
      cases (Option.some.inj h1).symm.trans e1
      rw [e2] at h2; cases h2⟩⟩⟩
theorem df_nil : DFx X E [] dFNil := PA.imp pa_nil fun σ H Q ⟨B, L, G, hK, E0, P⟩ => P [] H G .refl E0 .nil
theorem df_cons {g : LS → Rs (List D)} (ha : DEx X E e f) (hr : DFx X E es g) (hs : starEach (e :: es) X.env = (false, eval e X.env) :: starEach es X.env := by rfl) : DFx X E (e :: es) (dFCons f g) :=
  PA.imp (pa_cons ha hr hs) fun σ H Q ⟨B, L, G, hK, E0, P⟩ => ⟨B, L, G, hK, E0, PostG.next P .refl fun r1 L1 v1 H1 G1 S1 E1 R1 P1 => by
    split at P1
    · rename_i d L1' h
      obtain ⟨G1', S1', E1', rp⟩ := fz_ok E0 E1 S1 R1 h
      exact ⟨B, L1', G1', hK, E1', PostG.next P1 S1' fun ds L2 vs H2 G2 S2 E2 R2 P2 => P2 _ H2 G2 (S1'.trans S2) E2 (.cons (rp.mono S2.gsub) R2)⟩
    · exact P1.elim⟩
/-! ### displays -/
def dLst (g : LS → Rs (List D)) : DE := fun L => (g L).bind fun ds L1 => if lenOk ds.length = true then .ok (.t (.lst ds)) L1 else .stuck
def dTup (g : LS → Rs (List D)) : DE := fun L => (g L).bind fun ds L1 => if lenOk ds.length = true then .ok (.v (.tup ds)) L1 else .stuck
theorem de_lst {g : LS → Rs (List D)} (h : DFx X E es g) : DEx X E (.List es pos) (dLst g) := PE.imp (pe_lst h) fun σ H Q ⟨B, L, G, hK, E0, P⟩ =>
  ⟨B, L, G, hK, E0, PostG.next P .refl fun ds L1 vs H1 G1 S1 E1 R1 P1 => by
    split at P1
    · rename_i c
      refine ⟨by rw [Rps.length R1]; exact lenOk_line c, fun p hp => ?_⟩
      obtain ⟨E2, S2, R2⟩ := RR.fresh E1 hp (.lst R1)
      exact P1 _ _ G1 (S1.trans S2) E2 (RR.base S1.dom R2)
    · exact P1.elim⟩
theorem de_tup {g : LS → Rs (List D)} {x1} (h : DFx X E es g) : DEx X E (.Tuple es x1 pos) (dTup g) := PE.imp (pe_tup h) fun σ H Q ⟨B, L, G, hK, E0, P⟩ =>
  ⟨B, L, G, hK, E0, PostG.next P .refl fun ds L1 vs H1 G1 S1 E1 R1 P1 => by
    split at P1
    · rename_i c
      refine ⟨by rw [Rps.length R1]; exact lenOk_line c, fun p hp => ?_⟩
      obtain ⟨G2, E2, S2, R2⟩ := RR.freshG E1 hp R1
      exact P1 _ _ G2 (S1.trans S2) E2 R2
    · exact P1.elim⟩
/-! ### calls of builtins -/
inductive RpNs (K : PySem.W.Frag) (H G : Hp) : List V → List D → Prop
  | nil : RpNs K H G [] []
  | cons {v : V} {d : D} {vs : List V} {ds : List D} : RpN K H G v d → RpNs K H G vs ds → RpNs K H G (v :: vs) (d :: ds)
def peeks (L : LS) : List R → Option (List D)
  | [] => some []
  | r :: rs => match peek L r, peeks L rs with
    | some d, some ds => some (d :: ds)
    | _, _ => none
theorem peeks_ok {B : Bs} {Hs : Hp} {L : LS} {σ : St} {H G : Hp} (E0 : EnvOk B L σ H G) : ∀ {vs : List V} {rs : List R} {ds : List D}, RRL B.K Hs L σ H G vs rs → peeks L rs = some ds → RpNs B.K H G vs ds
  | [], [], _, _, e => by cases e; exact .nil
  | v :: vs, r :: rs, ds, ⟨h1, h2, _⟩, e => by
    simp only [peeks] at e
    split at e
    · rename_i d ds' p1 p2
      cases e
      exact .cons (peek_ok E0 h1 p1) (peeks_ok E0 h2 p2)
    · cases e
  | [], _ :: _, _, h, _ => h.elim
  | _ :: _, [], _, h, _ => h.elim
abbrev GCall := List D → Option R
def CallSnd (K : PySem.W.Frag) (r : List V → Hp → VK → Prop) (g : GCall) : Prop := ∀ (B : Bs) (L : LS) (σ : St) (H G : Hp) (vs : List V) (ds : List D) (res : R) (Q : VK), B.K = K → EnvOk B L σ H G → RpNs K H G vs ds → g ds = some res →
  (∀ v H' G', Stp L σ H G L H' G' → EnvOk B L σ H' G' → RR K H L σ H' G' v res → Q v H') → r vs H Q
def onL (g : GCall) (rs : List R) (L : LS) : Rs R := match peeks L rs with
  | some ds => match g ds with
    | some res => .ok res L
    | none => .stuck
  | none => .stuck
def dCall (g : GCall) (as : DA) : DE := fun L => (as L).bind fun rs L1 => onL g rs L1
theorem onL_ok {K : PySem.W.Frag} {r : List V → Hp → VK → Prop} {g : GCall} (sn : CallSnd K r g) {B : Bs} {L L2 : LS} {σ : St} {H G H2 G2 Ha : Hp} {vs : List V} {rs : List R} {Q : VK} (hK : B.K = K)
    (P : PostG (relR B.K H σ) B L σ H G (onL g rs L2) Q E) (S : Stp L σ H G L2 H2 G2) (E2 : EnvOk B L2 σ H2 G2) (R1 : RRL B.K Ha L2 σ H2 G2 vs rs) : r vs H2 Q := by
  subst hK
  unfold onL at P
  split at P
  · rename_i ds p1
    split at P
    · rename_i res hg
      exact sn B L2 σ H2 G2 vs ds res Q rfl E2 (peeks_ok E2 R1 p1) hg fun v H' G' S' E' R' => P v H' G' (S.trans S') E' (RR.base S.dom R')
    · exact P.elim
  · exact P.elim
theorem tCB_of {r : List V → Hp → VK → Prop} {g : GCall} (sn : CallSnd X.K r g) {as : DA} {σ : St} {H : Hp} {Q : VK} (h : tD X.K E (dCall g as) σ H Q) : tCB r (tDL X.K E as) σ H Q := by
  obtain ⟨B, L, G, hK, E0, P⟩ := h
  exact ⟨B, L, G, hK, E0, PostG.next P .refl fun rs L1 vs H1 G1 S1 E1 R1 P1 => onL_ok sn hK P1 S1 E1 R1⟩
theorem de_callB {id : String} {x : Str} {p : Pos} {r : List V → Hp → VK → Prop} {g : GCall} {as : DA} (hc : CallR X (.builtin id) r) (sn : CallSnd X.K r g) (hg : Gl X x) (hm : X.mg x = none) (hv : bootBuiltins x = some (.builtin id)) (ha : DLx X E (e :: es) as)
    (hn : x ≠ "__name__" := by decide) (hdb : (x == ("__debug__" : Str)) = false := by decide) (hs : starEach (e :: es) X.env = (false, eval e X.env) :: starEach es X.env := by rfl) (hplain : (backTo pos (starEach es X.env)).any (·.1) = false := by rfl) :
    DEx X E (.Call (.Name x p) (e :: es) [] pos) (dCall g as) := PE.imp (pe_callB hc hg hm hv ha hn hdb hs hplain) fun _ _ _ h => tCB_of sn h
theorem de_callTy {T : String} {x : Str} {p : Pos} {r : List V → Hp → VK → Prop} {g : GCall} {as : DA} (hc : CallR X (.type T) r) (sn : CallSnd X.K r g) (hg : Gl X x) (hm : X.mg x = none) (hv : bootBuiltins x = some (.type T)) (ha : DLx X E (e :: es) as)
    (hn : x ≠ "__name__" := by decide) (hdb : (x == ("__debug__" : Str)) = false := by decide) (hs : starEach (e :: es) X.env = (false, eval e X.env) :: starEach es X.env := by rfl) (hplain : (backTo pos (starEach es X.env)).any (·.1) = false := by rfl) :
    DEx X E (.Call (.Name x p) (e :: es) [] pos) (dCall g as) := PE.imp (pe_callTy hc hg hm hv ha hn hdb hs hplain) fun _ _ _ h => tCB_of sn h
/-! ### chains -/
/-! ### one-place operators -/
def dUn (g : D → Option R) (fa : DE) : DE := fun L => (fa L).bind fun r L1 => match peek L1 r with
  | some d => match g d with
    | some res => .ok res L1
    | none => .stuck
  | none => .stuck
def gNeg : D → Option R
  | .int i => some (.v (.int (-i)))
  | _ => none
/-! ### slices -/
def dONone : LS → Rs (Option Int) := fun L => .ok none L
def dOSome (f : DE) : LS → Rs (Option Int) := fun L => (f L).bind fun r L1 => match peek L1 r with
  | some (.int i) => .ok (some i) L1
  | _ => .stuck
theorem PO.imp {e : Option Expr} {t t' : TO} (h : PO X e t) (k : ∀ σ H Q, t' σ H Q → t σ H Q) : PO X e t' := ⟨fun pins s σ H Q I q => h.run pins s σ H Q I (k σ H Q q)⟩
def cutD (xs : List D) (lo hi : Option Int) : List D := (xs.drop (HT.sIx xs.length 0 lo)).take (HT.sIx xs.length xs.length hi - HT.sIx xs.length 0 lo)
def gSl (d : D) (lo hi : Option Int) : Option R := match d with
  | .lst xs => some (.t (.lst (cutD xs lo hi)))
  | .tup xs => some (.v (.tup (cutD xs lo hi)))
  | _ => none
def dSl (fa : DE) (fl fh : LS → Rs (Option Int)) : DE := fun L => (fa L).bind fun r L1 => (fl L1).bind fun lo L2 => (fh L2).bind fun hi L3 => match peek L3 r with
  | some d => match gSl d lo hi with
    | some res => .ok res L3
    | none => .stuck
  | none => .stuck
end
end DV
end
section
set_option Elab.async false
set_option linter.all false
set_option maxRecDepth 100000
set_option maxHeartbeats 4000000
namespace DV
open PySem PySem.Spec PyProof.Rows L2
section
variable {K : PySem.W.Frag}
theorem RpN.rp {H G : Hp} {v : V} {d : D} (h : RpN K H G v d) (n : ∀ o, ¬ Ob K G o d) : Rp K G v d := by
  rcases h with h | ⟨_, o, _, _, h2⟩
  · exact h
  · exact absurd h2 (n o)
/-! ### len -/
def gLen : GCall := fun ds => match ds with
  | [.lst xs] => some (.v (.int xs.length))
  | [.tup xs] => some (.v (.int xs.length))
  | [.scr xs] => some (.v (.int xs.length))
  | [.str z] => if lenOk z.length = true then some (.v (.int z.length)) else none
  | _ => none
theorem snd_len : CallSnd K (fun xs H Q => ∃ x n, xs = [x] ∧ LenV K x H n ∧ Q (.int n) H) gLen := by
  intro B L σ H G vs ds res Q hK E0 hr hg hQ
  subst hK
  unfold gLen at hg
  split at hg
  · cases hr with | cons r q => cases q; cases hg; obtain ⟨a, vs, rfl, ha, ra⟩ := r.lst E0.sub; exact ⟨_, _, rfl, .inl ⟨vs, .of ha, rfl⟩, hQ _ H G .refl E0 (by rw [ra.length]; exact .int _)⟩
  · cases hr with | cons r q => cases q; cases hg; obtain ⟨a, vs, rfl, ha, ra⟩ := r.tup E0.sub; exact ⟨_, _, rfl, .inr ⟨vs, .of ha, rfl⟩, hQ _ H G .refl E0 (by rw [ra.length]; exact .int _)⟩
  · cases hr with | cons r q => cases q; cases hg; obtain ⟨a, rfl, ha⟩ := r.scr E0.sub; exact ⟨_, _, rfl, .inl ⟨_, ha, rfl⟩, hQ _ H G .refl E0 (by rw [List.length_map]; exact .int _)⟩
  · split at hg
    · rename_i c
      cases hr with | cons r q => cases q; cases hg; rw [r.str]; exact ⟨_, _, rfl, ⟨lenOk_line c, rfl⟩, hQ _ H G .refl E0 (.int _)⟩
    · cases hg
  · cases hg
/-! ### list(x), tuple(x) -/
def gList : GCall := fun ds => match ds with
  | [.lst xs] => some (.t (.lst xs))
  | [.tup xs] => some (.t (.lst xs))
  | _ => none
def gTuple : GCall := fun ds => match ds with
  | [.lst xs] => some (.v (.tup xs))
  | [.tup xs] => some (.v (.tup xs))
  | _ => none
/-! ### int, str, abs, max, min of ints -/
def gInt : GCall := fun ds => match ds with
  | [.int i] => some (.v (.int i))
  | [.bl k] => some (.v (.int (if k then 1 else 0)))
  | _ => none
theorem snd_int : CallSnd K (fun xs H Q => (∃ i, xs = [.int i] ∧ Q (.int i) H) ∨ ∃ k, xs = [.bl k] ∧ Q (.int (if k then 1 else 0)) H) gInt := by
  intro B L σ H G vs ds res Q hK E0 hr hg hQ
  unfold gInt at hg
  split at hg
  · cases hr with | cons r q => cases q; cases hg; rw [r.int]; exact .inl ⟨_, rfl, hQ _ H G .refl E0 (.int _)⟩
  · cases hr with | cons r q => cases q; cases hg; rw [r.bl]; exact .inr ⟨_, rfl, hQ _ H G .refl E0 (.int _)⟩
  · cases hg
def gStr : GCall := fun ds => match ds with
  | [.int i] => if decide (i.natAbs < 2 ^ 1000) = true then some (.v (.str (toString i))) else none
  | _ => none
theorem snd_str : CallSnd K (fun xs H Q => ∃ i, xs = [.int i] ∧ i.natAbs.log2 < 1920 ∧ Q (.str (toString i)) H) gStr := by
  intro B L σ H G vs ds res Q hK E0 hr hg hQ
  unfold gStr at hg
  split at hg
  · split at hg
    · rename_i c
      cases hr with | cons r q =>
        cases q; cases hg; rw [r.int]
        exact ⟨_, rfl, Nat.lt_trans (PySem.Flt.log2_lt_of (by decide) (of_decide_eq_true c)) (by decide), hQ _ H G .refl E0 (.str _)⟩
    · cases hg
  · cases hg
def gAbs : GCall := fun ds => match ds with
  | [.int i] => some (.v (.int (if i < 0 then -i else i)))
  | _ => none
theorem snd_abs : CallSnd K (fun xs H Q => ∃ i, xs = [.int i] ∧ Q (.int (if i < 0 then -i else i)) H) gAbs := by
  intro B L σ H G vs ds res Q hK E0 hr hg hQ
  unfold gAbs at hg
  split at hg
  · cases hr with | cons r q => cases q; cases hg; rw [r.int]; exact ⟨_, rfl, hQ _ H G .refl E0 (.int _)⟩
  · cases hg
def gMax2 : GCall := fun ds => match ds with
  | [.int i, .int j] => some (.v (.int (if j > i then j else i)))
  | _ => none
def gMin2 : GCall := fun ds => match ds with
  | [.int i, .int j] => some (.v (.int (if j < i then j else i)))
  | _ => none
theorem snd_min2 : CallSnd K (fun xs H Q => ∃ i j, xs = [.int i, .int j] ∧ Q (.int (if j < i then j else i)) H) gMin2 := by
  intro B L σ H G vs ds res Q hK E0 hr hg hQ
  unfold gMin2 at hg
  split at hg
  · cases hr with | cons r q => cases q with | cons r' q => cases q; cases hg; rw [r.int, r'.int]; exact ⟨_, _, rfl, hQ _ H G .refl E0 (.int _)⟩
  · cases hg
/-! ### all, any, sum -/
def D.bls : List D → Option (List Bool)
  | [] => some []
  | .bl b :: ds => (D.bls ds).map fun r => b :: r
  | _ => none
def D.ints : List D → Option (List Int)
  | [] => some []
  | .int i :: ds => (D.ints ds).map fun r => i :: r
  | _ => none
theorem Rps.bls {G : Hp} : ∀ {vs : List V} {ds : List D} {bs : List Bool}, Rps K G vs ds → D.bls ds = some bs → vs = bs.map V.bl
  | _, _, _, .nil, e => by cases e; rfl
  | _, _, _, .cons (d := .bl b) r q, e => by
    simp only [D.bls, Option.map_eq_some_iff] at e
    obtain ⟨bs, e, rfl⟩ := e
    cases r
    rw [Rps.bls q e]; rfl
  | _, _, _, .cons (d := .non) r q, e => by cases e
  | _, _, _, .cons (d := .int _) r q, e => by cases e
  | _, _, _, .cons (d := .str _) r q, e => by cases e
  | _, _, _, .cons (d := .opq _) r q, e => by cases e
  | _, _, _, .cons (d := .lst _) r q, e => by cases e
  | _, _, _, .cons (d := .tup _) r q, e => by cases e
  | _, _, _, .cons (d := .dct _) r q, e => by cases e
  | _, _, _, .cons (d := .dctT _) r q, e => by cases e
  | _, _, _, .cons (d := .scr _) r q, e => by cases e
  | _, _, _, .cons (d := .fd _) r q, e => by cases e
theorem Rps.ints {G : Hp} : ∀ {vs : List V} {ds : List D} {bs : List Int}, Rps K G vs ds → D.ints ds = some bs → vs = bs.map V.int
  | _, _, _, .nil, e => by cases e; rfl
  | _, _, _, .cons (d := .int b) r q, e => by
    simp only [D.ints, Option.map_eq_some_iff] at e
    obtain ⟨bs, e, rfl⟩ := e
    cases r
    rw [Rps.ints q e]; rfl
  | _, _, _, .cons (d := .non) r q, e => by cases e
  | _, _, _, .cons (d := .bl _) r q, e => by cases e
  | _, _, _, .cons (d := .str _) r q, e => by cases e
  | _, _, _, .cons (d := .opq _) r q, e => by cases e
  | _, _, _, .cons (d := .lst _) r q, e => by cases e
  | _, _, _, .cons (d := .tup _) r q, e => by cases e
  | _, _, _, .cons (d := .dct _) r q, e => by cases e
  | _, _, _, .cons (d := .dctT _) r q, e => by cases e
  | _, _, _, .cons (d := .scr _) r q, e => by cases e
  | _, _, _, .cons (d := .fd _) r q, e => by cases e
def gAll : GCall := fun ds => match ds with
  | [.lst xs] => (D.bls xs).map fun bs => .v (.bl (bs.all id))
  | _ => none
def gAny : GCall := fun ds => match ds with
  | [.lst xs] => (D.bls xs).map fun bs => .v (.bl (bs.any id))
  | _ => none
def gSum : GCall := fun ds => match ds with
  | [.lst xs] => (D.ints xs).map fun bs => .v (.int bs.sum)
  | _ => none
theorem snd_all : CallSnd K (rAll K) gAll := by
  intro B L σ H G vs ds res Q hK E0 hr hg hQ
  subst hK
  unfold gAll at hg
  split at hg
  · simp only [Option.map_eq_some_iff] at hg
    obtain ⟨bs, h1, rfl⟩ := hg
    cases hr with | cons r q =>
      cases q
      obtain ⟨a, vs, rfl, ha, ra⟩ := r.lst E0.sub
      rw [ra.bls h1] at ha
      exact ⟨a, bs, rfl, .of ha, hQ _ H G .refl E0 (.bl _)⟩
  · cases hg
/-! ### isinstance with built-in classes -/
def isiB : String → String → Option Bool
  | "NoneType", "int" => some false | "NoneType", "bool" => some false | "NoneType", "str" => some false | "NoneType", "list" => some false | "NoneType", "tuple" => some false
  | "bool", "int" => some true | "bool", "bool" => some true | "bool", "str" => some false | "bool", "list" => some false | "bool", "tuple" => some false
  | "int", "int" => some true | "int", "bool" => some false | "int", "str" => some false | "int", "list" => some false | "int", "tuple" => some false
  | "str", "int" => some false | "str", "bool" => some false | "str", "str" => some true | "str", "list" => some false | "str", "tuple" => some false
  | "list", "int" => some false | "list", "bool" => some false | "list", "str" => some false | "list", "list" => some true | "list", "tuple" => some false
  | "tuple", "int" => some false | "tuple", "bool" => some false | "tuple", "str" => some false | "tuple", "list" => some false | "tuple", "tuple" => some true
  | _, _ => none
theorem isiB_ok {a b : String} {r : Bool} (h : isiB a b = some r) : PySem.W.kitOne K (.type a) (.type b) = some r := by
  apply kit_ty
  unfold isiB at h
  split at h <;> first | (cases h; decide +kernel) | cases h
def D.tyn : D → Option String
  | .non => some "NoneType" | .bl _ => some "bool" | .int _ => some "int" | .str _ => some "str" | .lst _ => some "list" | .tup _ => some "tuple"
  | _ => none
theorem RpN.tyx {H G : Hp} (sb : ∀ a o, G a = some o → H a = some o) {v : V} {d : D} {t : String} (h : RpN K H G v d) (e : d.tyn = some t) : TyX K H v (.type t) := by
  rcases h with h | ⟨a, o, rfl, h1, h2⟩
  · cases h with
    | non => cases e; exact .base .non
    | bl b => cases e; exact .base (.bl b)
    | int b => cases e; exact .base (.int b)
    | str b => cases e; exact .base (.str b)
    | lst r q => cases e; exact .base (.lst (sb _ _ r))
    | tup r q => cases e; exact .base (.tup (sb _ _ r))
    | _ => cases e
  · cases h2 with
    | lst q => cases e; exact .base (.lst h1)
    | _ => cases e
def isiAny (t : String) : List D → Option Bool
  | [] => some false
  | .opq (.ty n) :: ds => match isiB t n, isiAny t ds with
    | some b, some c => some (b || c)
    | _, _ => none
  | _ => none
def gIsi : GCall := fun ds => match ds with
  | [d, .opq (.ty n)] => (d.tyn.bind fun t => isiB t n).map fun b => .v (.bl b)
  | [d, .tup ts] => (d.tyn.bind fun t => isiAny t ts).map fun b => .v (.bl b)
  | _ => none
theorem isiAny_ok {G : Hp} {t : String} : ∀ {cs : List V} {ts : List D} {b : Bool}, Rps K G cs ts → isiAny t ts = some b → ∃ us, Paired ClsV cs us ∧ PySem.W.kitAny K (.type t) us = some b
  | _, _, _, .nil, e => by cases e; exact ⟨[], .nil, kitAny_nil⟩
  | _, _, b, .cons (d := .opq (.ty n)) r q, e => by
    cases r
    simp only [isiAny] at e
    split at e
    · rename_i b1 c1 h1 h2
      cases e
      obtain ⟨us, h3, h4⟩ := isiAny_ok q h2
      refine ⟨_, .cons (.ty n) h3, kitAny_cons (isiB_ok h1) (fun z => ?_) (fun z => ?_)⟩
      · rw [z]; exact h4
      · rw [z]; rfl
    · cases e
  | _, _, _, .cons (d := .non) r q, e => by cases e
  | _, _, _, .cons (d := .bl _) r q, e => by cases e
  | _, _, _, .cons (d := .int _) r q, e => by cases e
  | _, _, _, .cons (d := .str _) r q, e => by cases e
  | _, _, _, .cons (d := .lst _) r q, e => by cases e
  | _, _, _, .cons (d := .tup _) r q, e => by cases e
  | _, _, _, .cons (d := .dct _) r q, e => by cases e
  | _, _, _, .cons (d := .dctT _) r q, e => by cases e
  | _, _, _, .cons (d := .scr _) r q, e => by cases e
  | _, _, _, .cons (d := .fd _) r q, e => by cases e
  | _, _, _, .cons (d := .opq .non) r q, e => by cases e
  | _, _, _, .cons (d := .opq (.bl _)) r q, e => by cases e
  | _, _, _, .cons (d := .opq (.int _)) r q, e => by cases e
  | _, _, _, .cons (d := .opq (.str _)) r q, e => by cases e
  | _, _, _, .cons (d := .opq (.byt _)) r q, e => by cases e
  | _, _, _, .cons (d := .opq (.flt _)) r q, e => by cases e
  | _, _, _, .cons (d := .opq (.ref _)) r q, e => by cases e
theorem snd_isi : CallSnd K (fun xs H Q => rIsi K xs H Q ∨ rIsiT K xs H Q) gIsi := by
  intro B L σ H G vs ds res Q hK E0 hr hg hQ
  subst hK
  unfold gIsi at hg
  split at hg
  · simp only [Option.map_eq_some_iff, Option.bind_eq_some_iff] at hg
    obtain ⟨b, ⟨t, h1, h2⟩, rfl⟩ := hg
    cases hr with | cons r q => cases q with | cons r' q =>
      cases q
      rw [r'.opq]
      exact .inl ⟨_, _, _, _, b, rfl, .ty _, r.tyx E0.sub h1, isiB_ok h2, hQ _ H G .refl E0 (.bl _)⟩
  · simp only [Option.map_eq_some_iff, Option.bind_eq_some_iff] at hg
    obtain ⟨b, ⟨t, h1, h2⟩, rfl⟩ := hg
    cases hr with | cons r q => cases q with | cons r' q =>
      cases q
      obtain ⟨a, cs, rfl, ha, ra⟩ := r'.tup E0.sub
      obtain ⟨us, h3, h4⟩ := isiAny_ok ra h2
      exact .inr ⟨_, a, cs, _, us, b, rfl, ha, h3, r.tyx E0.sub h1, h4, hQ _ H G .refl E0 (.bl _)⟩
  · cases hg
theorem call_isiA {X : Cx} : CallR X (.builtin "isinstance") (fun xs H Q => rIsi X.K xs H Q ∨ rIsiT X.K xs H Q) := call_isi.or call_isiT
/-- a built-in class as a value -/
theorem de_ty {X : Cx} {E : XK} {x : Str} {n : String} {pos : Pos} (hg : Gl X x) (hm : X.mg x = none) (hv : bootBuiltins x = some (.type n)) (hn : x ≠ "__name__" := by decide) (hd : (x == ("__debug__" : Str)) = false := by decide) : DEx X E (.Name x pos) (dC (.opq (.ty n))) :=
  de_const (v := .ty n) (pe_bltn hg hm hv rfl hn hd) fun _ _ => .opq _
end
/-! ### an object is changed -/
section
variable {X : Cx} {E : XK} {e a b c : Expr} {es : List Expr} {pos : Pos} {f fa fb fc : DE}
theorem EnvOk.write {B : Bs} {L : LS} {σ : St} {H G : Hp} (E0 : EnvOk B L σ H G) {i : Nat} {m : Md} {d d' : D} {a : Addr} {o' : HO} (hw : m.wr = true) (hl : L[i]? = some (.obj m d)) (hs : σ[i]? = some (some (.ref a))) (ho : Ob B.K G o' d') :
    EnvOk B (L.set i (.obj m d')) σ (upd H a o') G ∧ Stp L σ H G (L.set i (.obj m d')) (upd H a o') G := by
  obtain ⟨a', o1, e1, e2, e3, e4, e5⟩ := E0.at_ i _ hl
  rw [hs] at e1; cases e1
  have hi : i < L.length := (List.getElem?_eq_some_iff.mp hl).1
  have back : ∀ (j : Nat) (n : Md) (x : D), (L.set i (.obj m d'))[j]? = some (.obj n x) → ∃ y, L[j]? = some (.obj n y) := fun j n x k => by
    by_cases c : i = j
    · subst c
      rw [List.getElem?_set_self hi] at k; cases k
      exact ⟨d, hl⟩
    · rw [List.getElem?_set_ne c] at k; exact ⟨x, k⟩
  have gne : ∀ b u, G b = some u → b ≠ a := fun b u k z => by subst z; rw [e4] at k; cases k
  have obj : ∀ b, ¬ ObjAt L σ b → ¬ ObjAt (L.set i (.obj m d')) σ b := fun b n ⟨j, k, x, h1, h2⟩ => let ⟨y, q⟩ := back j k x h1; n ⟨j, k, y, q, h2⟩
  refine ⟨⟨by rw [List.length_set]; exact E0.len, fun b u k => by rw [upd_ne (gne b u k)]; exact E0.sub b u k, E0.old, E0.new, fun b u k n => ?_, fun b k => ?_, fun j x k => ?_, fun j k m1 n1 d1 e1 b h1 h2 h3 h4 => ?_⟩, ⟨fun _ _ h => h, fun _ _ h => .inl h, fun b u k n => ?_, fun b k => ?_, fun j n x k => ?_⟩⟩
  · have ne : b ≠ a := by
      rintro rfl
      cases m with
      | own => rw [show B.H0 b = none from e5] at k; cases k
      | io q => exact n (List.mem_of_getElem? (show B.io[q]? = some b from e5))
      | lock => cases hw
      | iolock _ => cases hw
    rw [upd_ne ne]; exact E0.keep b u k n
  · by_cases c : b = a
    · subst c; rw [upd_same]; simp
    · rw [upd_ne c]; exact E0.dom b k
  · by_cases c : i = j
    · subst c
      rw [List.getElem?_set_self hi] at k; cases k
      exact ⟨a, o', hs, upd_same, ho, e4, e5⟩
    · rw [List.getElem?_set_ne c] at k
      have q := E0.at_ j x k
      cases x with
      | un => trivial
      | val y => exact q
      | bor y =>
        obtain ⟨v, h1, h2⟩ := q
        refine ⟨v, h1, ?_⟩
        rcases h2 with h2 | ⟨b, u, h2, h3, h4, h5⟩
        · exact .inl h2
        · have ne : b ≠ a := by rintro rfl; exact h5.1 ⟨i, m, d, hl, hs⟩
          exact .inr ⟨b, u, h2, by rw [upd_ne ne]; exact h3, h4, obj b h5.1, h5.2⟩
      | par y => exact q
      | nst fs y => exact q
      | obj n y =>
        obtain ⟨b, u, h1, h2, h3, h4, h5⟩ := q
        have ne : b ≠ a := by rintro rfl; exact c (E0.inj _ _ _ _ _ _ _ hl k hs h1)
        exact ⟨b, u, h1, by rw [upd_ne ne]; exact h2, h3, h4, h5⟩
  · obtain ⟨y1, q1⟩ := back _ _ _ h1
    obtain ⟨y2, q2⟩ := back _ _ _ h2
    exact E0.inj _ _ _ _ _ _ _ q1 q2 h3 h4
  · have ne : b ≠ a := by rintro rfl; exact n ⟨i, m, d, hw, hl, hs⟩
    rw [upd_ne ne]; exact k
  · by_cases c : b = a
    · subst c; rw [upd_same]; simp
    · rw [upd_ne c]; exact k
  · exact back j n x k
abbrev GMut := D → List D → Option (D × D)
def MutSnd (K : PySem.W.Frag) (r : V → List V → Hp → VK → Prop) (g : GMut) : Prop := ∀ (H G : Hp) (a : Addr) (o : HO) (d : D) (vs : List V) (ds : List D) (d' res : D) (Q : VK), (∀ b u, G b = some u → H b = some u) → H a = some o → Ob K G o d → Rps K G vs ds → g d ds = some (d', res) →
  (∀ o' v, Ob K G o' d' → Rp K G v res → Q v (upd H a o')) → r (.ref a) vs H Q
def tyOk (T : String) : D → Bool
  | .lst _ => T == "list"
  | .dct _ => T == "dict"
  | .dctT _ => T == "dict"
  | _ => false
def onMut (g : GMut) (i : Nat) (ds : List D) (L : LS) : Rs R := match L[i]? with
  | some (.obj m d) => if m.wr = true then match g d ds with
    | some (d', res) => .ok (.v res) (L.set i (.obj m d'))
    | none => .stuck
    else .stuck
  | _ => .stuck
def recv (T : String) (r : R) (L : LS) : Option Nat := match r with
  | .s i => match L[i]? with
    | some (.obj _ d) => if tyOk T d = true then some i else none
    | _ => none
  | _ => none
def dMut (T : String) (g : GMut) (fo : DE) (as : LS → Rs (List D)) : DE := fun L => (fo L).bind fun r L1 => match recv T r L1 with
  | some i => (as L1).bind fun ds L2 => onMut g i ds L2
  | none => .stuck
theorem recv_ok {B : Bs} {L : LS} {σ : St} {H G Hs : Hp} (E0 : EnvOk B L σ H G) {T : String} {v : V} {r : R} {i : Nat} (R1 : RR B.K Hs L σ H G v r) (h : recv T r L = some i) : r = .s i ∧ tyV B.K T v H ∧ σ[i]? = some (some v) := by
  unfold recv at h
  split at h
  · rename_i j
    split at h
    · rename_i m d q
      split at h
      · rename_i c
        cases h
        have e : σ[i]? = some (some v) := R1
        obtain ⟨a, o, e1, e2, e3, _⟩ := E0.at_ i _ q
        rw [e] at e1; cases e1
        refine ⟨rfl, ?_, e⟩
        cases e3 with
        | lst q => exact .inl ⟨by simpa [tyOk] using c, _, .of e2⟩
        | dct _ _ => exact .inr (.inr (.inl ⟨by simpa [tyOk] using c, .inl ⟨_, e2⟩⟩))
        | dctT _ _ => exact .inr (.inr (.inl ⟨by simpa [tyOk] using c, .inr ⟨_, e2⟩⟩))
      · cases h
    · cases h
  · cases h
theorem onMut_ok {K : PySem.W.Frag} {r : V → List V → Hp → VK → Prop} {g : GMut} (sn : MutSnd K r g) {B : Bs} {L L2 : LS} {σ : St} {H G H2 G2 : Hp} {i : Nat} {v : V} {vs : List V} {ds : List D} {Q : VK} (hK : B.K = K)
    (P : PostG (relR B.K H σ) B L σ H G (onMut g i ds L2) Q E) (S : Stp L σ H G L2 H2 G2) (E2 : EnvOk B L2 σ H2 G2) (e : σ[i]? = some (some v)) (R2 : Rps B.K G2 vs ds) : r v vs H2 Q := by
  subst hK
  unfold onMut at P
  split at P
  · rename_i m d q
    split at P
    · rename_i hw
      split at P
      · rename_i d' res hg
        obtain ⟨a, o, e1, e2, e3, _⟩ := E2.at_ i _ q
        rw [e] at e1; cases e1
        refine sn H2 G2 a o d vs ds d' res Q E2.sub e2 e3 R2 hg fun o' v ho hv => ?_
        obtain ⟨E3, S3⟩ := E2.write hw q e ho
        exact P v _ G2 (S.trans S3) E3 hv
      · exact P.elim
    · exact P.elim
  · exact P.elim
theorem de_mut {o : Expr} {name : Str} {apos cpos : Pos} {T id : String} {r : V → List V → Hp → VK → Prop} {g : GMut} {as : LS → Rs (List D)} (pa : PlainAttrs T) (slot : Slot T name id) (hty : typeOf (.builtin id) = pure (.type "method_descriptor")) (hm : MtR X id r) (sn : MutSnd X.K r g)
    (ho : DEx X E o f) (ha : DFx X E (e :: es) as) (hbase : attributeBase o name X.env (eval o X.env) = eval o X.env := by rfl)
    (hfew : ((backTo cpos (starEach (e :: es) X.env)).all (fun x => !x.1) && (backToKw cpos (keywordEach [] X.env)).all (fun x => x.1.isSome)
      && decide ((e :: es).length + ([] : List Keyword).length + (if ([] : List Keyword).isEmpty then 0 else 1) < 30)) = true := by rfl)
    (hline : (apos.endLine == cpos.line) = true := by rfl) (hs : starEach (e :: es) X.env = (false, eval e X.env) :: starEach es X.env := by rfl) (hplain : (backTo cpos (starEach es X.env)).any (·.1) = false := by rfl) :
    DEx X E (.Call (.Attribute o name apos) (e :: es) [] cpos) (dMut T g f as) := PE.imp (pe_bm pa slot hty hm ho ha hbase hfew hline hs hplain) fun σ H Q ⟨B, L, G, hK, E0, P⟩ =>
  ⟨B, L, G, hK, E0, PostG.next P .refl fun r1 L1 v1 H1 G1 S1 E1 R1 P1 => by
    split at P1
    · rename_i i h
      obtain ⟨rfl, ty, e1⟩ := recv_ok E1 R1 h
      refine ⟨hK ▸ ty, B, L1, G1, hK, E1, PostG.next P1 S1 fun ds L2 vs H2 G2 S2 E2 R2 P2 => ?_⟩
      exact onMut_ok sn hK P2 (S1.trans S2) E2 e1 R2
    · exact P1.elim⟩
def tyOkR (T : String) : D → Bool
  | .lst _ => T == "list"
  | .str _ => T == "str"
  | .dct _ => T == "dict"
  | .dctT _ => T == "dict"
  | _ => false
def peekTy (T : String) (r : R) (L : LS) : Bool := match peek L r with
  | some d => tyOkR T d
  | none => false
def dMt (T : String) (g : GCall) (fo : DE) (as : DA) : DE := fun L => (fo L).bind fun r L1 => if peekTy T r L1 = true then (as L1).bind fun rs L2 => onL g (r :: rs) L2 else .stuck
/-! ### the lists' methods -/
def gApp : GMut := fun d ds => match d, ds with
  | .lst xs, [y] => if lenOk xs.length = true then some (.lst (xs ++ [y]), .non) else none
  | _, _ => none
theorem lenOk_lt {n : Nat} (h : lenOk n = true) : n < sizeLine := by
  unfold lenOk at h
  have := of_decide_eq_true h
  rw [sizeLine_eq]; omega
theorem snd_app {K : PySem.W.Frag} : MutSnd K rAppend gApp := by
  intro H G a o d vs ds d' res Q sb ha ho hr hg hQ
  unfold gApp at hg
  split at hg
  · split at hg
    · rename_i c
      cases hg
      cases ho with | lst q =>
      cases hr with | cons r q' =>
      cases q'
      exact ⟨a, _, _, rfl, rfl, ha, by rw [q.length]; exact lenOk_lt c, hQ _ _ (.lst (q.append (.cons r .nil))) .non⟩
    · cases hg
  · cases hg
def gExt : GMut := fun d ds => match d, ds with
  | .lst xs, [.lst ys] => if lenOk (xs.length + ys.length) = true then some (.lst (xs ++ ys), .non) else none
  | _, _ => none
def gPopAt : GMut := fun d ds => match d, ds with
  | .lst xs, [.int i] => if (decide (0 ≤ i) && lenOk xs.length) = true then match xs[i.toNat]? with
    | some y => some (.lst (xs.eraseIdx i.toNat), y)
    | none => none
    else none
  | _, _ => none
end
end DV
end
section
set_option Elab.async false
set_option linter.all false
set_option maxRecDepth 100000
set_option maxHeartbeats 4000000
namespace DV
open PySem PySem.Spec PyProof.Rows L2
inductive Fl where
  | nx (L : LS) | ret (r : R) (L : LS) | brk (L : LS) | ct (L : LS) | exc (e : Ex) (L : LS) | stuck
abbrev DS := LS → Fl
def GSub (G G' : Hp) : Prop := ∀ a o, G a = some o → G' a = some o
theorem GSub.refl {G : Hp} : GSub G G := fun _ _ h => h
theorem GSub.trans {G G1 G2 : Hp} (h : GSub G G1) (k : GSub G1 G2) : GSub G G2 := fun a o q => k a o (h a o q)
def PostS (B : Bs) (G : Hp) (fl : Fl) (D : Ends) (E : XK) : Prop :=
  match fl with
  | .nx L' => ∀ σ' H' G', GSub G G' → EnvOk B L' σ' H' G' → D.nx σ' H'
  | .ret r L' => ∀ v σ' H' G', GSub G G' → EnvOk B L' σ' H' G' → RR B.K B.H0 L' σ' H' G' v r → D.rt v H'
  | .brk L' => ∀ σ' H' G', GSub G G' → EnvOk B L' σ' H' G' → D.bk σ' H'
  | .ct L' => ∀ σ' H' G', GSub G G' → EnvOk B L' σ' H' G' → D.ct σ' H'
  | .exc e L' => ∀ C dx σ' H' G', GSub G G' → EnvOk B L' σ' H' G' → ExR B.K H' G' C dx e → E C dx H'
  | .stuck => False
def tS (K : PySem.W.Frag) (E : XK) (g : DS) : TS := fun D σ H => ∃ B L G, B.K = K ∧ EnvOk B L σ H G ∧ PostS B G (g L) D E
def DSx (X : Cx) (E : XK) (st : Stmt) (g : DS) : Prop := PS X st (tS X.K E g)
def DSsx (X : Cx) (E : XK) (st : List Stmt) (g : DS) : Prop := PSs X st (tS X.K E g)
theorem PS.imp {X : Cx} {e : Stmt} {t t' : TS} (h : PS X e t) (k : ∀ D σ H, t' D σ H → t D σ H) : PS X e t' := ⟨fun pins s σ H D I q => h.run pins s σ H D I (k D σ H q)⟩
theorem PSs.imp {X : Cx} {e : List Stmt} {t t' : TS} (h : PSs X e t) (k : ∀ D σ H, t' D σ H → t D σ H) : PSs X e t' := ⟨fun pins s σ H D I q => h.run pins s σ H D I (k D σ H q)⟩
theorem PostS.mono {B : Bs} {G G1 : Hp} {fl : Fl} {D : Ends} {E : XK} (h : PostS B G fl D E) (k : GSub G G1) : PostS B G1 fl D E := by
  cases fl with
  | nx L => exact fun σ' H' G' s => h σ' H' G' (k.trans s)
  | ret r L => exact fun v σ' H' G' s => h v σ' H' G' (k.trans s)
  | brk L => exact fun σ' H' G' s => h σ' H' G' (k.trans s)
  | ct L => exact fun σ' H' G' s => h σ' H' G' (k.trans s)
  | exc e L => exact fun C dx σ' H' G' s => h C dx σ' H' G' (k.trans s)
  | stuck => exact h
/-- other ends -/
theorem PostS.ends {B : Bs} {G : Hp} {fl fl' : Fl} {D D' : Ends} {E : XK} (h : PostS B G fl D E)
    (nx : ∀ L, fl = .nx L → ∀ σ' H' G', GSub G G' → EnvOk B L σ' H' G' → D'.nx σ' H') (bk : ∀ L, fl = .brk L → ∀ σ' H' G', GSub G G' → EnvOk B L σ' H' G' → D'.bk σ' H')
    (ct : ∀ L, fl = .ct L → ∀ σ' H' G', GSub G G' → EnvOk B L σ' H' G' → D'.ct σ' H') (rt : D'.rt = D.rt) : PostS B G fl D' E := by
  cases fl with
  | nx L => exact nx L rfl
  | ret r L => intro v σ' H' G' s e q; rw [rt]; exact h v σ' H' G' s e q
  | brk L => exact bk L rfl
  | ct L => exact ct L rfl
  | exc e L => exact h
  | stuck => exact h
def Fl.seq (f : Fl) (k : LS → Fl) : Fl := match f with
  | .nx L => k L
  | .ret r L => .ret r L
  | .brk L => .brk L
  | .ct L => .ct L
  | .exc e L => .exc e L
  | .stuck => .stuck
@[simp] theorem Fl.seq_nx (L : LS) (k : LS → Fl) : (Fl.nx L).seq k = k L := rfl
@[simp] theorem Fl.seq_ret (r : R) (L : LS) (k : LS → Fl) : (Fl.ret r L).seq k = .ret r L := rfl
@[simp] theorem Fl.seq_brk (L : LS) (k : LS → Fl) : (Fl.brk L).seq k = .brk L := rfl
@[simp] theorem Fl.seq_ct (L : LS) (k : LS → Fl) : (Fl.ct L).seq k = .ct L := rfl
@[simp] theorem Fl.seq_exc (e : Ex) (L : LS) (k : LS → Fl) : (Fl.exc e L).seq k = .exc e L := rfl
@[simp] theorem Fl.seq_stuck (k : LS → Fl) : Fl.stuck.seq k = .stuck := rfl
def Rs.fl {α : Type} (r : Rs α) (k : α → LS → Fl) : Fl := match r with
  | .ok x L => k x L
  | .exc e L => .exc e L
  | .stuck => .stuck
@[simp] theorem Rs.fl_ok {α : Type} (x : α) (L : LS) (k : α → LS → Fl) : (Rs.ok x L).fl k = k x L := rfl
@[simp] theorem Rs.fl_exc {α : Type} (e : Ex) (L : LS) (k : α → LS → Fl) : (Rs.exc e L : Rs α).fl k = .exc e L := rfl
@[simp] theorem Rs.fl_stuck {α : Type} (k : α → LS → Fl) : (Rs.stuck : Rs α).fl k = .stuck := rfl
/-- an expression ahead of what a statement does with it -/
theorem PostS.next {α β : Type} {rel1 : LS → Hp → Hp → β → α → Prop} {B : Bs} {L : LS} {σ : St} {H G : Hp} {res : Rs α} {k : α → LS → Fl} {D : Ends} {Q1 : β → Hp → Prop} {E : XK}
    (h : PostS B G (res.fl k) D E) (hk : ∀ r L' v H' G', Stp L σ H G L' H' G' → EnvOk B L' σ H' G' → rel1 L' H' G' v r → PostS B G' (k r L') D E → Q1 v H') : PostG rel1 B L σ H G res Q1 E := by
  cases res with
  | ok r L' => exact fun v H' G' S' E' R' => hk r L' v H' G' S' E' R' (PostS.mono h S'.gsub)
  | exc e L' => exact fun C dx H' G' S' E' R' => h C dx σ H' G' S'.gsub E' R'
  | stuck => exact h
/-! ### slots set -/
theorem EnvOk.setVal {B : Bs} {L : LS} {σ : St} {H G : Hp} (E0 : EnvOk B L σ H G) (i : Nat) {v : V} {s : Sl} (hs : (∃ d, s = .val d ∧ Rp B.K G v d) ∨ (∃ d, s = .bor d ∧ RpH B L σ H G v d) ∨ s = .un) : EnvOk B (L.set i s) (σ.set i (some v)) H G := by
  have old : ∀ (j : Nat) (m : Md) (x : D), (L.set i s)[j]? = some (.obj m x) → i ≠ j ∧ L[j]? = some (.obj m x) := fun j m x k => by
    by_cases c : i = j
    · subst c
      by_cases hi : i < L.length
      · rw [List.getElem?_set_self hi] at k
        cases k
        rcases hs with ⟨d, e, _⟩ | ⟨d, e, _⟩ | e <;> cases e
      · rw [List.getElem?_eq_none (by rw [List.length_set]; omega)] at k; cases k
    · rw [List.getElem?_set_ne c] at k; exact ⟨c, k⟩
  have obj : ∀ a, ObjAt (L.set i s) (σ.set i (some v)) a → ObjAt L σ a := fun a ⟨j, m, x, h1, h2⟩ => by
    obtain ⟨c, q⟩ := old j m x h1
    rw [List.getElem?_set_ne c] at h2
    exact ⟨j, m, x, q, h2⟩
  have bor : ∀ {w : V} {d : D}, RpH B L σ H G w d → RpH B (L.set i s) (σ.set i (some v)) H G w d := fun {w d} h => by
    rcases h with h | ⟨a, o, h1, h2, h3, h4, h5⟩
    · exact .inl h
    · exact .inr ⟨a, o, h1, h2, h3, fun z => h4 (obj a z), h5⟩
  refine ⟨by rw [List.length_set, List.length_set]; exact E0.len, E0.sub, E0.old, E0.new, E0.keep, E0.dom, fun j x k => ?_, fun j k m n d e a h1 h2 h3 h4 => ?_⟩
  · by_cases c : i = j
    · subst c
      by_cases hi : i < L.length
      · rw [List.getElem?_set_self hi] at k
        cases k
        rw [List.getElem?_set_self (by rw [← E0.len]; exact hi)]
        rcases hs with ⟨d, rfl, r⟩ | ⟨d, rfl, r⟩ | rfl
        · exact ⟨v, rfl, r⟩
        · exact ⟨v, rfl, bor r⟩
        · trivial
      · rw [List.getElem?_eq_none (by rw [List.length_set]; omega)] at k; cases k
    · rw [List.getElem?_set_ne c] at k
      rw [List.getElem?_set_ne c]
      have q := E0.at_ j x k
      cases x with
      | un => trivial
      | val y => exact q
      | bor y => obtain ⟨w, h1, h2⟩ := q; exact ⟨w, h1, bor h2⟩
      | par y => exact q
      | nst fs y => exact q
      | obj m y => exact q
  · obtain ⟨c1, q1⟩ := old _ _ _ h1
    obtain ⟨c2, q2⟩ := old _ _ _ h2
    rw [List.getElem?_set_ne c1] at h3
    rw [List.getElem?_set_ne c2] at h4
    exact E0.inj _ _ _ _ _ _ _ q1 q2 h3 h4
theorem EnvOk.setOwn {B : Bs} {L : LS} {σ : St} {H G : Hp} (E0 : EnvOk B L σ H G) (i : Nat) {a : Addr} {o : HO} {d : D} (h1 : H a = some o) (h2 : Ob B.K G o d) (h3 : G a = none) (h4 : B.H0 a = none) (h5 : ¬ ObjAt L σ a) :
    EnvOk B (L.set i (.obj .own d)) (σ.set i (some (.ref a))) H G := by
  have old : ∀ (j : Nat) (m : Md) (x : D), (L.set i (.obj .own d))[j]? = some (.obj m x) → (i = j ∧ i < L.length ∧ m = .own ∧ x = d) ∨ (i ≠ j ∧ L[j]? = some (.obj m x)) := fun j m x k => by
    by_cases c : i = j
    · subst c
      by_cases hi : i < L.length
      · rw [List.getElem?_set_self hi] at k
        cases k
        exact .inl ⟨rfl, hi, rfl, rfl⟩
      · rw [List.getElem?_eq_none (by rw [List.length_set]; omega)] at k; cases k
    · rw [List.getElem?_set_ne c] at k; exact .inr ⟨c, k⟩
  have obj : ∀ b, ObjAt (L.set i (.obj .own d)) (σ.set i (some (.ref a))) b → b = a ∨ ObjAt L σ b := fun b ⟨j, m, x, k1, k2⟩ => by
    rcases old j m x k1 with ⟨rfl, hi, _, _⟩ | ⟨c, q⟩
    · rw [List.getElem?_set_self (by rw [← E0.len]; exact hi)] at k2
      cases k2; exact .inl rfl
    · rw [List.getElem?_set_ne c] at k2
      exact .inr ⟨j, m, x, q, k2⟩
  refine ⟨by rw [List.length_set, List.length_set]; exact E0.len, E0.sub, E0.old, E0.new, E0.keep, E0.dom, fun j x k => ?_, fun j k m n d1 e1 b q1 q2 q3 q4 => ?_⟩
  · by_cases c : i = j
    · subst c
      by_cases hi : i < L.length
      · rw [List.getElem?_set_self hi] at k
        cases k
        rw [List.getElem?_set_self (by rw [← E0.len]; exact hi)]
        exact ⟨a, o, rfl, h1, h2, h3, h4⟩
      · rw [List.getElem?_eq_none (by rw [List.length_set]; omega)] at k; cases k
    · rw [List.getElem?_set_ne c] at k
      rw [List.getElem?_set_ne c]
      have q := E0.at_ j x k
      cases x with
      | un => trivial
      | val y => exact q
      | bor y =>
        obtain ⟨w, e1, r⟩ := q
        refine ⟨w, e1, ?_⟩
        rcases r with r | ⟨b, u, e2, k1, k2, k3, k4⟩
        · exact .inl r
        · refine .inr ⟨b, u, e2, k1, k2, fun z => ?_, k4⟩
          rcases obj b z with rfl | z
          · exact k4 h4
          · exact k3 z
      | par y => exact q
      | nst fs y => exact q
      | obj m y => exact q
  · rcases old _ _ _ q1 with ⟨rfl, hi, _, _⟩ | ⟨c1, p1⟩
    · rcases old _ _ _ q2 with ⟨rfl, _, _, _⟩ | ⟨c2, p2⟩
      · rfl
      · rw [List.getElem?_set_self (by rw [← E0.len]; exact hi)] at q3
        cases q3
        rw [List.getElem?_set_ne c2] at q4
        exact absurd ⟨_, _, _, p2, q4⟩ h5
    · rcases old _ _ _ q2 with ⟨rfl, hi, _, _⟩ | ⟨c2, p2⟩
      · rw [List.getElem?_set_self (by rw [← E0.len]; exact hi)] at q4
        cases q4
        rw [List.getElem?_set_ne c1] at q3
        exact absurd ⟨_, _, _, p1, q3⟩ h5
      · rw [List.getElem?_set_ne c1] at q3
        rw [List.getElem?_set_ne c2] at q4
        exact E0.inj _ _ _ _ _ _ _ p1 p2 q3 q4
def asgR (i : Nat) (r : R) (L : LS) : Option LS := match r with
  | .v d => some (L.set i (.val d))
  | .t d => some (L.set i (.obj .own d))
  | .s j => match L[j]? with
    | some (.bor d) => some (L.set i (.bor d))
    | _ => match fz L (.s j) with
      | some (d, L') => some (L'.set i (.val d))
      | none => none
theorem asgR_ok {B : Bs} {L L' : LS} {σ : St} {H G Hs : Hp} (E0 : EnvOk B L σ H G) (hs : ∀ a, B.H0 a ≠ none → Hs a ≠ none) {v : V} {r : R} {i : Nat} (h : RR B.K Hs L σ H G v r) (p : asgR i r L = some L') :
    ∃ G', GSub G G' ∧ EnvOk B L' (σ.set i (some v)) H G' := by
  have b0 : ∀ {a}, Hs a = none → B.H0 a = none := fun {a} k => by
    cases q : B.H0 a with
    | none => rfl
    | some u => exact absurd k (hs a (some_ne q))
  cases r with
  | v d => cases p; exact ⟨G, .refl, E0.setVal i (.inl ⟨d, rfl, h⟩)⟩
  | t d =>
    cases p
    obtain ⟨a, o, rfl, h1, h2, h3, h4, h5⟩ := h
    exact ⟨G, .refl, E0.setOwn i h1 h2 h3 (b0 h4) h5⟩
  | s j =>
    have h' : σ[j]? = some (some v) := h
    simp only [asgR] at p
    split at p
    · rename_i d q
      cases p
      obtain ⟨w, e1, r⟩ := E0.at_ j _ q
      rw [h'] at e1; cases e1
      exact ⟨G, .refl, E0.setVal i (.inr (.inl ⟨d, rfl, r⟩))⟩
    · split at p
      · rename_i d L1 q
        cases p
        -- frozen first: the region grows
        obtain ⟨G', S', E', r'⟩ := fz_ok (H0 := H) (G0 := G) (L0 := L) E0 E0 .refl (v := v) (r := .s j) h' q
        exact ⟨G', S'.gsub, E'.setVal i (.inl ⟨d, rfl, r'⟩)⟩
      · cases p
section
variable {X : Cx} {E : XK} {e a b c : Expr} {es : List Expr} {st : Stmt} {sts : List Stmt} {pos : Pos} {f fa fb fc : DE} {g h : DS}
theorem dss_nil : DSsx X E [] (fun L => .nx L) := PSs.imp pss_nil fun D σ H ⟨B, L, G, hK, E0, P⟩ => P σ H G .refl E0
def dSeq (g h : DS) : DS := fun L => (g L).seq h
theorem tSeq_of {D : Ends} {σ : St} {H : Hp} {K : PySem.W.Frag} (q : tS K E (dSeq g h) D σ H) : tSeq (tS K E g) (tS K E h) D σ H := by
  obtain ⟨B, L, G, hK, E0, P⟩ := q
  refine ⟨B, L, G, hK, E0, ?_⟩
  unfold dSeq at P
  cases hg : g L with
  | nx L1 => rw [hg] at P; exact fun σ' H' G' s E' => ⟨B, L1, G', hK, E', PostS.mono P s⟩
  | ret r L1 => rw [hg] at P; exact P
  | brk L1 => rw [hg] at P; exact P
  | ct L1 => rw [hg] at P; exact P
  | exc x L1 => rw [hg] at P; exact P
  | stuck => rw [hg] at P; exact P
theorem dss_cons (h1 : DSx X E st g) (h2 : DSsx X E sts h) : DSsx X E (st :: sts) (dSeq g h) := PSs.imp (pss_cons h1 h2) fun _ _ _ q => tSeq_of q
theorem dss_one (h1 : DSx X E st g) : DSsx X E [st] g := pss_one h1
def dDrop (f : DE) : DS := fun L => (f L).fl fun _ L1 => .nx L1
theorem ds_expr (he : DEx X E e f) (hs : swapsWith e none pos.line X.env = pure false := by rfl) : DSx X E (.Expr e pos) (dDrop f) := PS.imp (ps_expr he hs) fun D σ H ⟨B, L, G, hK, E0, P⟩ =>
  ⟨B, L, G, hK, E0, PostS.next P fun r L1 v H1 G1 S1 E1 R1 P1 => P1 σ H1 G1 .refl E1⟩
def dRet (f : DE) : DS := fun L => (f L).fl fun r L1 => .ret r L1
theorem ds_ret (he : DEx X E e f) : DSx X E (.Return (some e) pos) (dRet f) := PS.imp (ps_ret he) fun D σ H ⟨B, L, G, hK, E0, P⟩ =>
  ⟨B, L, G, hK, E0, PostS.next P fun r L1 v H1 G1 S1 E1 R1 P1 => P1 v σ H1 G1 .refl E1 (RR.base E0.dom R1)⟩
def dIfS (t : DT) (g h : DS) : DS := fun L => (t L).fl fun b L1 => if b = true then g L1 else h L1
theorem ds_if {t : DT} {x y : List Stmt} (hc : DTx X E c t) (ha : DSsx X E x g) (hb : DSsx X E y h) : DSx X E (.If c x y pos) (dIfS t g h) := PS.imp (ps_if hc ha hb) fun D σ H ⟨B, L, G, hK, E0, P⟩ =>
  ⟨B, L, G, hK, E0, PostS.next P fun r L1 v H1 G1 S1 E1 R1 P1 => by
    have e1 : v = r := R1
    subst e1
    cases v with
    | true => exact ⟨B, L1, G1, hK, E1, P1⟩
    | false => exact ⟨B, L1, G1, hK, E1, P1⟩⟩
def dAsg (i : Nat) (f : DE) : DS := fun L => (f L).fl fun r L1 => match asgR i r L1 with
  | some L2 => .nx L2
  | none => .stuck
theorem ds_asg {i : Nat} {x : Str} {pos' : Pos} (hN : X.N.Nodup) (hi : X.N[i]? = some x) (hx : Loc X.env.scope x) (he : DEx X E e f) (hs : swapsWith e (some (.Name x pos')) pos.line X.env = pure false := by rfl) (hf : X.fn x = true ∨ X.env.scope.names.lookup x = some .local := by first | exact .inl rfl | exact .inr rfl | assumption) :
    DSx X E (.Assign [.Name x pos'] e pos) (dAsg i f) := PS.imp (ps_set hN hi hx he hs hf) fun D σ H ⟨B, L, G, hK, E0, P⟩ =>
  ⟨B, L, G, hK, E0, PostS.next P fun r L1 v H1 G1 S1 E1 R1 P1 => by
    split at P1
    · rename_i L2 p
      obtain ⟨G2, gs, E2⟩ := asgR_ok E1 E0.dom R1 p
      exact P1 _ H1 G2 gs E2
    · exact P1.elim⟩
def dAug (i : Nat) (g : GOp) (f : DE) : DS := fun L => match L[i]? with
  | some (.val d) => (f L).fl fun r L1 => match peek L1 r with
    | some e => match g d e with
      | some res => match asgR i res L1 with
        | some L2 => .nx L2
        | none => .stuck
      | none => .stuck
    | none => .stuck
  | _ => .stuck
end
end DV
end
section
set_option Elab.async false
set_option linter.all false
set_option maxRecDepth 100000
set_option maxHeartbeats 4000000
namespace DV
open PySem PySem.Spec PyProof.Rows L2
/-! ### several targets -/
def sets : St → List Nat → List V → St
  | σ, i :: is, v :: vs => sets (σ.set i (some v)) is vs
  | σ, _, _ => σ
def NoSl : List R → Prop
  | [] => True
  | r :: rs => NoS r ∧ NoSl rs
def fzS : List R → LS → Option (List R × LS)
  | [], L => some ([], L)
  | .v d :: rs, L => (fzS rs L).map fun p => (.v d :: p.1, p.2)
  | .t d :: rs, L => (fzS rs L).map fun p => (.t d :: p.1, p.2)
  | .s i :: rs, L => match fz L (.s i) with
    | some (d, L') => (fzS rs L').map fun p => (.v d :: p.1, p.2)
    | none => none
theorem fzS_ok {B : Bs} {σ : St} {H Hs : Hp} : ∀ {vs : List V} {rs rs' : List R} {L L' : LS} {G : Hp}, EnvOk B L σ H G → RRL B.K Hs L σ H G vs rs → fzS rs L = some (rs', L') →
    ∃ G', Stp L σ H G L' H G' ∧ EnvOk B L' σ H G' ∧ RRL B.K Hs L' σ H G' vs rs' ∧ NoSl rs' ∧ ∀ (k : Nat) e, rs'[k]? = some (.t e) → rs[k]? = some (.t e)
  | [], [], _, L, L', G, E0, h, p => by cases p; exact ⟨G, .refl, E0, trivial, trivial, fun k e q => q⟩
  | v :: vs, .v d :: rs, _, L, L', G, E0, ⟨h1, h2, h3⟩, p => by
    simp only [fzS, Option.map_eq_some_iff] at p
    obtain ⟨⟨rs', L1⟩, p1, p2⟩ := p
    cases p2
    obtain ⟨G', S, E1, R1, n, t⟩ := fzS_ok E0 h2 p1
    exact ⟨G', S, E1, ⟨S.rr h1, R1, fun d' hd => by cases hd⟩, ⟨trivial, n⟩, fun k e q => by
      cases k with
      | zero => exact q
      | succ k => exact t k e (by simpa using q)⟩
  | v :: vs, .t d :: rs, _, L, L', G, E0, ⟨h1, h2, h3⟩, p => by
    simp only [fzS, Option.map_eq_some_iff] at p
    obtain ⟨⟨rs', L1⟩, p1, p2⟩ := p
    cases p2
    obtain ⟨G', S, E1, R1, n, t⟩ := fzS_ok E0 h2 p1
    exact ⟨G', S, E1, ⟨S.rr h1, R1, fun d' hd k e q => h3 d' hd k e (t k e q)⟩, ⟨trivial, n⟩, fun k e q => by
      cases k with
      | zero => exact q
      | succ k => exact t k e (by simpa using q)⟩
  | v :: vs, .s i :: rs, _, L, L', G, E0, ⟨h1, h2, h3⟩, p => by
    simp only [fzS] at p
    split at p
    · rename_i d L1 q
      simp only [Option.map_eq_some_iff] at p
      obtain ⟨⟨rs', L2⟩, p1, p2⟩ := p
      cases p2
      have h1' : RR B.K H L σ H G v (.s i) := h1
      obtain ⟨G1, S1, E1, r1⟩ := fz_ok E0 E0 .refl h1' q
      obtain ⟨G', S, E2, R1, n, t⟩ := fzS_ok E1 (RRL.stp S1 h2) p1
      exact ⟨G', S1.trans S, E2, ⟨S.rp r1, R1, fun d' hd => by cases hd⟩, ⟨trivial, n⟩, fun k e q => by
        cases k with
        | zero => cases q
        | succ k => exact t k e (by simpa using q)⟩
    · cases p
  | [], _ :: _, _, _, _, _, _, h, _ => h.elim
  | _ :: _, [], _, _, _, _, _, h, _ => h.elim
theorem objs_val {L : LS} {σ : St} {i : Nat} {v : V} {s : Sl} (hs : ∀ m d, s ≠ .obj m d) {a : Addr} : ObjAt (L.set i s) (σ.set i (some v)) a → ObjAt L σ a
  | ⟨j, m, x, h1, h2⟩ => by
    by_cases c : i = j
    · subst c
      by_cases hi : i < L.length
      · rw [List.getElem?_set_self hi] at h1; exact absurd (Option.some.inj h1) (hs _ _)
      · rw [List.getElem?_eq_none (by rw [List.length_set]; omega)] at h1; cases h1
    · rw [List.getElem?_set_ne c] at h1 h2; exact ⟨j, m, x, h1, h2⟩
theorem objs_own {L : LS} {σ : St} {i : Nat} {b : Addr} {d : D} {m : Md} (hl : L.length = σ.length) {a : Addr} : ObjAt (L.set i (.obj m d)) (σ.set i (some (.ref b))) a → a = b ∨ ObjAt L σ a
  | ⟨j, m, x, h1, h2⟩ => by
    by_cases c : i = j
    · subst c
      by_cases hi : i < σ.length
      · rw [List.getElem?_set_self hi] at h2; cases h2; exact .inl rfl
      · rw [List.getElem?_eq_none (by rw [List.length_set]; omega)] at h1; cases h1
    · rw [List.getElem?_set_ne c] at h1 h2; exact .inr ⟨j, m, x, h1, h2⟩
def setMany : List Nat → List R → LS → Option LS
  | [], [], L => some L
  | i :: is, .v d :: rs, L => setMany is rs (L.set i (.val d))
  | i :: is, .t d :: rs, L => setMany is rs (L.set i (.obj .own d))
  | _, _, _ => none
theorem RRL.move {K : PySem.W.Frag} {Hs : Hp} {L L' : LS} {σ σ' : St} {H G : Hp} : ∀ {vs : List V} {rs : List R}, NoSl rs → RRL K Hs L σ H G vs rs → (∀ (k : Nat) e a, rs[k]? = some (.t e) → vs[k]? = some (.ref a) → ¬ ObjAt L σ a → ¬ ObjAt L' σ' a) → RRL K Hs L' σ' H G vs rs
  | [], [], _, _, _ => trivial
  | v :: vs, r :: rs, ⟨n, ns⟩, ⟨h1, h2, h3⟩, q => by
    refine ⟨?_, RRL.move ns h2 fun k e a hk hv => q (k + 1) e a (by simpa using hk) (by simpa using hv), h3⟩
    cases r with
    | v d => exact h1
    | t d =>
      obtain ⟨a, o, rfl, k1, k2, k3, k4, k5⟩ := h1
      exact ⟨a, o, rfl, k1, k2, k3, k4, q 0 d a rfl rfl k5⟩
    | s i => exact n.elim
  | [], _ :: _, _, h, _ => h.elim
  | _ :: _, [], _, h, _ => h.elim
theorem setMany_ok {B : Bs} {H G Hs : Hp} (hb : ∀ a, B.H0 a ≠ none → Hs a ≠ none) : ∀ {is : List Nat} {vs : List V} {rs : List R} {L L' : LS} {σ : St}, EnvOk B L σ H G → NoSl rs → RRL B.K Hs L σ H G vs rs → setMany is rs L = some L' → EnvOk B L' (sets σ is vs) H G ∧ vs.length = is.length
  | [], [], [], L, L', σ, E0, _, h, p => by cases p; exact ⟨E0, rfl⟩
  | i :: is, v :: vs, .v d :: rs, L, L', σ, E0, ⟨_, n⟩, ⟨h1, h2, h3⟩, p => by
    have E1 := E0.setVal i (s := .val d) (v := v) (.inl ⟨d, rfl, h1⟩)
    have R2 : RRL B.K Hs (L.set i (.val d)) (σ.set i (some v)) H G vs rs := RRL.move n h2 fun k e a _ _ q z => q (objs_val (fun _ _ w => by cases w) z)
    obtain ⟨E2, e⟩ := setMany_ok hb E1 n R2 p
    exact ⟨E2, by simp [e]⟩
  | i :: is, v :: vs, .t d :: rs, L, L', σ, E0, ⟨_, n⟩, ⟨h1, h2, h3⟩, p => by
    obtain ⟨a, o, rfl, k1, k2, k3, k4, k5⟩ := h1
    have b0 : B.H0 a = none := by
      cases q : B.H0 a with
      | none => rfl
      | some u => exact absurd k4 (hb a (some_ne q))
    have E1 := E0.setOwn i k1 k2 k3 b0 k5
    have R2 : RRL B.K Hs (L.set i (.obj .own d)) (σ.set i (some (.ref a))) H G vs rs := RRL.move n h2 fun k e b hk hv q z => by
      rcases objs_own E0.len z with rfl | z
      · exact h3 d rfl k e hk hv
      · exact q z
    obtain ⟨E2, e⟩ := setMany_ok hb E1 n R2 p
    exact ⟨E2, by simp [e]⟩
  | is, v :: vs, .s _ :: rs, L, L', σ, E0, ⟨n, _⟩, h, p => n.elim
  | [], v :: vs, .v _ :: rs, L, L', σ, E0, n, h, p => by cases p
  | [], v :: vs, .t _ :: rs, L, L', σ, E0, n, h, p => by cases p
  | i :: is, [], [], L, L', σ, E0, n, h, p => by cases p
  | _, [], _ :: _, L, L', σ, E0, n, h, p => h.elim
  | _, _ :: _, [], L, L', σ, E0, n, h, p => h.elim
def dTupAsg (is : List Nat) (as : DA) : DS := fun L => (as L).fl fun rs L1 => match fzS rs L1 with
  | some (rs', L2) => match setMany is rs' L2 with
    | some L3 => .nx L3
    | none => .stuck
  | none => .stuck
/-- the slots after it, whatever way the model stores -/
theorem tupAsg_ok {K : PySem.W.Frag} {E : XK} {as : DA} {is : List Nat} {D : Ends} {σ : St} {H : Hp} {Q : List V → Hp → Prop} (h : tS K E (dTupAsg is as) D σ H)
    (hq : ∀ vs H1, vs.length = is.length → D.nx (sets σ is vs) H1 → (∀ p o, H1 p = none → D.nx (sets σ is vs) (upd H1 p o)) → Q vs H1) : tDL K E as σ H Q := by
  obtain ⟨B, L, G, hK, E0, P⟩ := h
  refine ⟨B, L, G, hK, E0, PostS.next P fun rs L1 vs H1 G1 S1 E1 R1 P1 => ?_⟩
  split at P1
  · rename_i rs' L2 p
    split at P1
    · rename_i L3 p3
      obtain ⟨G2, S2, E2, R2, n, _⟩ := fzS_ok E1 R1 p
      obtain ⟨E3, hl⟩ := setMany_ok E0.dom E2 n R2 p3
      exact hq vs H1 hl (P1 _ H1 G2 S2.gsub E3) fun p o hp => P1 _ _ G2 S2.gsub (E3.laid (o := o) hp).1
    · exact P1.elim
  · exact P1.elim
section
variable {X : Cx} {E : XK} {e a b c : Expr} {es : List Expr} {st : Stmt} {sts : List Stmt} {pos : Pos} {f fa fb fc : DE} {g h : DS}
theorem ds_par3 {i j l : Nat} {x y z : Str} {as : DA} {px py pz pt : Pos} {kt k2 pt2} (hc : X.calm = true) (hN : X.N.Nodup) (hi : X.N[i]? = some x) (hj : X.N[j]? = some y) (hl : X.N[l]? = some z) (hij : i ≠ j) (hil : i ≠ l) (hjl : j ≠ l)
    (hx : X.env.scope.names.lookup x = some .local) (hy : X.env.scope.names.lookup y = some .local) (hz : X.env.scope.names.lookup z = some .local) (ha : DLx X E [a, b, c] as)
    (hw : swappedStores [.Tuple [.Name x px, .Name y py, .Name z pz] kt pt] (.Tuple [a, b, c] k2 pt2) X.env = pure (some [x, y, z]))
    (hs : swapsWithSole [.Tuple [.Name x px, .Name y py, .Name z pz] kt pt] (.Tuple [a, b, c] k2 pt2) pos.line X.env = pure false := by rfl) :
    DSx X E (.Assign [.Tuple [.Name x px, .Name y py, .Name z pz] kt pt] (.Tuple [a, b, c] k2 pt2) pos) (dTupAsg [i, j, l] as) :=
  PS.imp (ps_par3 hc hN hi hj hl hij hil hjl hx hy hz ha hw hs) fun D σ H q => tupAsg_ok q fun vs H1 hl hd _ => by
    match vs, hl with
    | [u, v, w], _ => exact ⟨u, v, w, rfl, hd⟩
/-! targets that are names -/
def gNames : List Nat → TGs
  | [] => gNil
  | i :: is => gCons (gName i) (gNames is)
theorem gNames_ok {Q : St → Hp → Prop} {H : Hp} : ∀ {is : List Nat} {vs : List V} {σ : St}, vs.length = is.length → Q (sets σ is vs) H → gNames is vs σ H Q
  | [], [], σ, _, q => ⟨rfl, q⟩
  | i :: is, v :: vs, σ, h, q => ⟨v, vs, rfl, gNames_ok (is := is) (vs := vs) (σ := σ.set i (some v)) (by simpa using h) q⟩
/-- a, b, c, .. = x, y, z, ..: by the tuple -/
theorem ds_tupAsg {tg : Expr} {is : List Nat} {as : DA} {k2 pt2} (hg : PG X tg (gTup X.K is.length (gNames is))) (hl : (is.length ≤ 1000) = True) (ha : DLx X E es as)
    (hs : swapsWithSole [tg] (.Tuple es k2 pt2) pos.line X.env = pure false := by rfl) (hw : swappedStores [tg] (.Tuple es k2 pt2) X.env = pure none := by rfl)
    (h1 : (assignEach [tg] X.env).map (·.2) = [assign tg X.env] := by rfl) : DSx X E (.Assign [tg] (.Tuple es k2 pt2) pos) (dTupAsg is as) :=
  PS.imp (ps_asg (pe_tup ha) hg hs hw h1) fun D σ H q => tupAsg_ok q fun vs H1 hl' _ hd => by
    refine ⟨by rw [hl', sizeLine_eq]; have := of_eq_true hl; omega, fun p hp => ⟨p, vs, rfl, .of upd_same, hl', gNames_ok hl' ?_⟩⟩
    exact hd p _ hp
/-! ### loops -/
inductive Tg where
  | one (i : Nat) | many (is : List Nat)
def tgR (K : PySem.W.Frag) : Tg → TG
  | .one i => gName i
  | .many is => gTup K is.length (gNames is)
def setVals : List Nat → List D → LS → Option LS
  | [], [], L => some L
  | i :: is, d :: ds, L => setVals is ds (L.set i (.val d))
  | _, _, _ => none
def tgSet : Tg → D → LS → Option LS
  | .one i, d, L => some (L.set i (.val d))
  | .many is, .tup ds, L => setVals is ds L
  | _, _, _ => none
def Tg.ix : Tg → List Nat
  | .one i => [i]
  | .many is => is
theorem setVals_ok {B : Bs} {H G : Hp} : ∀ {is : List Nat} {vs : List V} {ds : List D} {L L' : LS} {σ : St}, EnvOk B L σ H G → Rps B.K G vs ds → setVals is ds L = some L' → EnvOk B L' (sets σ is vs) H G ∧ vs.length = is.length
  | [], [], [], L, L', σ, E0, _, p => by cases p; exact ⟨E0, rfl⟩
  | i :: is, v :: vs, d :: ds, L, L', σ, E0, .cons r q, p => by
    obtain ⟨E2, e⟩ := setVals_ok (E0.setVal i (s := .val d) (v := v) (.inl ⟨d, rfl, r⟩)) q p
    exact ⟨E2, by simp [e]⟩
  | [], v :: vs, d :: ds, L, L', σ, E0, _, p => by cases p
  | i :: is, [], [], L, L', σ, E0, _, p => by cases p
theorem tg_ok {B : Bs} {K : PySem.W.Frag} {L L' : LS} {σ : St} {H G : Hp} {t : Tg} {v : V} {d : D} {Q : St → Hp → Prop} (hK : B.K = K) (E0 : EnvOk B L σ H G) (r : Rp B.K G v d) (p : tgSet t d L = some L')
    (hq : ∀ vs, EnvOk B L' (sets σ t.ix vs) H G → Q (sets σ t.ix vs) H) : tgR K t v σ H Q := by
  subst hK
  cases t with
  | one i =>
    cases p
    exact hq [v] (E0.setVal i (.inl ⟨d, rfl, r⟩))
  | many is =>
    cases d with
    | tup ds =>
      cases r with
      | tup ha rs =>
        obtain ⟨E1, hl⟩ := setVals_ok E0 rs p
        exact ⟨_, _, rfl, .of (E0.sub _ _ ha), hl, gNames_ok hl (hq _ E1)⟩
    | _ => cases p
/-- what is walked -/
def WD (K : PySem.W.Frag) (J : It) (ds : List D) (G0 : Hp) : Prop := ∃ Y, Walk J ds.length (fun H => GSub G0 H) Y ∧
  ∀ i H x H' d, Y i H x H' → ds[i]? = some d → ∀ B L σ G, B.K = K → EnvOk B L σ H G → GSub G0 G → ∃ G', Stp L σ H G L H' G' ∧ EnvOk B L σ H' G' ∧ Rp K G' x d
def relI (K : PySem.W.Frag) : LS → Hp → Hp → It → List D → Prop := fun _ _ G J ds => WD K J ds G
def tDI (K : PySem.W.Frag) (E : XK) (f : LS → Rs (List D)) : TI := fun σ H R => ∃ B L G, B.K = K ∧ EnvOk B L σ H G ∧ PostG (relI B.K) B L σ H G (f L) R E
def DIx (X : Cx) (E : XK) (tg iter : Expr) (f : LS → Rs (List D)) : Prop := PI X tg iter (tDI X.K E f)
theorem PI.imp {tg iter : Expr} {t t' : TI} (h : PI X tg iter t) (k : ∀ σ H R, t' σ H R → t σ H R) : PI X tg iter t' := ⟨fun pins s σ H R I q => h.run pins s σ H R I (k σ H R q)⟩
def forL (t : Tg) (g : DS) : List D → LS → Fl
  | [], L => .nx L
  | d :: ds, L => match tgSet t d L with
    | none => .stuck
    | some L1 => match g L1 with
      | .nx L2 => forL t g ds L2
      | .ct L2 => forL t g ds L2
      | .brk L2 => .nx L2
      | .ret r L2 => .ret r L2
      | .exc e L2 => .exc e L2
      | .stuck => .stuck
def dFor (t : Tg) (fi : LS → Rs (List D)) (g : DS) : DS := fun L => (fi L).fl fun ds L1 => forL t g ds L1
theorem ds_for {tg iter : Expr} {body : List Stmt} {fi : LS → Rs (List D)} {t : Tg} (hp : PassesOwn (model X.prog X.w) X.A X.env X.xe) (hc : X.calm = true) (hi : DIx X E tg iter fi) (hg : PG X tg (tgR X.K t)) (hb : DSsx X E body g)
    (hs : ∀ x, foldedSetIterable iter X.env x = pure x := by intro _; rfl) : DSx X E (.For tg iter body [] pos) (dFor t fi g) := PS.imp (ps_for hp hc hi hg hb hs) fun D σ H ⟨B, L, G, hK, E0, P⟩ =>
  ⟨B, L, G, hK, E0, PostS.next P fun ds L1 J H1 G1 S1 E1 R1 P1 => by
    obtain ⟨Y, W, hY⟩ := R1
    refine for_it W (fun i σ H => ∃ L G, EnvOk B L σ H G ∧ GSub G1 G ∧ forL t g (ds.drop i) L = forL t g ds L1) ⟨L1, G1, E1, .refl, by simp⟩ (fun i σ H _ ⟨L, G, E', gs, _⟩ => gs.trans E'.sub) ?_ ?_
    · rintro i x σ2 H2 H3 hi ⟨L2, G2, E2, gs, e⟩ y
      obtain ⟨d, hd⟩ : ∃ d, ds[i]? = some d := ⟨ds[i], by simp [hi]⟩
      obtain ⟨G3, S3, E3, r3⟩ := hY i H2 x H3 d y hd B L2 σ2 G2 rfl E2 gs
      have ed : ds.drop i = d :: ds.drop (i + 1) := by
        rw [List.drop_eq_getElem_cons hi]
        rw [List.getElem?_eq_getElem hi] at hd
        rw [Option.some.inj hd]
      rw [ed] at e
      simp only [forL] at e
      rw [← e] at P1
      cases q : tgSet t d L2 with
      | none => rw [q] at P1; exact P1.elim
      | some L3 =>
        rw [q] at P1 e
        refine tg_ok hK E3 r3 q fun vs E4 => ⟨B, L3, G3, hK, E4, ?_⟩
        simp only at P1 e
        have gs3 : GSub G1 G3 := gs.trans S3.gsub
        cases qg : g L3 with
        | nx L4 =>
          rw [qg] at e
          exact fun σ' H' G' s E' => ⟨L4, G', E', gs3.trans s, e⟩
        | ct L4 =>
          rw [qg] at e
          exact fun σ' H' G' s E' => ⟨L4, G', E', gs3.trans s, e⟩
        | brk L4 => rw [qg] at P1; exact fun σ' H' G' s E' => P1 σ' H' G' (gs3.trans s) E'
        | ret r L4 => rw [qg] at P1; exact fun v σ' H' G' s E' R' => P1 v σ' H' G' (gs3.trans s) E' R'
        | exc x L4 => rw [qg] at P1; exact fun C dx σ' H' G' s E' R' => P1 C dx σ' H' G' (gs3.trans s) E' R'
        | stuck => rw [qg] at P1; exact P1.elim
    · rintro σ2 H2 ⟨L2, G2, E2, gs, e⟩
      rw [List.drop_length] at e
      rw [← e] at P1
      exact P1 σ2 H2 G2 gs E2⟩
def whL (c : DT) (g : DS) : Nat → LS → Fl
  | 0, _ => .stuck
  | n + 1, L => match c L with
    | .ok true L1 => match g L1 with
      | .nx L2 => whL c g n L2
      | .ct L2 => whL c g n L2
      | .brk L2 => .nx L2
      | .ret r L2 => .ret r L2
      | .exc e L2 => .exc e L2
      | .stuck => .stuck
    | .ok false L1 => .nx L1
    | .exc e L1 => .exc e L1
    | .stuck => .stuck
end
end DV
end
section
set_option Elab.async false
set_option linter.all false
set_option maxRecDepth 100000
set_option maxHeartbeats 4000000
namespace DV
open PySem PySem.Spec PyProof.Rows L2 RZ
/-! ### what is walked -/
theorem walk_zipT {K : PySem.W.Frag} {a b : Addr} {xs ys : List V} {n : Nat} (hn : n = min xs.length ys.length) : Walk (ItzT K a b) n (fun H => SqT K H a xs ∧ SqT K H b ys) (YPair (fun i => xs[i]?) (fun i => ys[i]?)) := by
  subst hn
  refine ⟨fun i _ hi q => ?_, fun _ q => ⟨xs, ys, q.1, q.2, by omega⟩, fun i H v H' _ q y => ?_⟩
  · have h1 : i < xs.length := by omega
    have h2 : i < ys.length := by omega
    exact ⟨xs, ys, xs[i], ys[i], q.1, q.2, by simp [h1], by simp [h2]⟩
  · obtain ⟨T, x, z, h1, h2, h3, h4, h5⟩ := y
    exact ⟨T, x, z, h1, h2, h3, h4 xs q.1, h5 ys q.2⟩
theorem wd_at {K : PySem.W.Frag} {J : It} {ds : List D} {vs : List V} {G0 : Hp} (hl : vs.length = ds.length) (w : Walk J vs.length (fun H => GSub G0 H) (YAt vs)) (r : Rps K G0 vs ds) : WD K J ds G0 := by
  refine ⟨YAt vs, hl ▸ w, fun i H x H' d y hd B L σ G hK E0 gs => ?_⟩
  obtain ⟨rfl, hx⟩ := y
  obtain ⟨v, h1, h2⟩ := r.get hd
  rw [hx] at h1; cases h1
  exact ⟨G, .refl, E0, h2.mono gs⟩
theorem wd_list {K : PySem.W.Frag} {a : Addr} {vs : List V} {ds : List D} {G0 : Hp} (h : G0 a = some (.lst vs)) (r : Rps K G0 vs ds) : WD K (Itl K a) ds G0 :=
  wd_at r.length (walk_list.mono (fun H q => .of (q _ _ h)) fun _ _ _ _ _ _ y => y) r
theorem wd_tup {K : PySem.W.Frag} {a : Addr} {vs : List V} {ds : List D} {G0 : Hp} (h : G0 a = some (.tup vs)) (r : Rps K G0 vs ds) : WD K (Itt K a) ds G0 :=
  wd_at r.length (walk_tup.mono (fun H q => .of (q _ _ h)) fun _ _ _ _ _ _ y => y) r
def rgD (lo c : Int) (n : Nat) : List D := (List.range n).map fun i => .int (lo + (i : Nat) * c)
theorem rgD_length (lo c : Int) (n : Nat) : (rgD lo c n).length = n := by simp [rgD]
theorem rgD_get {lo c : Int} {n i : Nat} {d : D} (h : (rgD lo c n)[i]? = some d) : d = .int (lo + (i : Nat) * c) := by
  unfold rgD at h
  rw [List.getElem?_map] at h
  cases q : (List.range n)[i]? with
  | none => rw [q] at h; cases h
  | some j =>
    rw [q] at h
    have : j = i := by
      have := List.getElem?_eq_some_iff.mp q
      obtain ⟨hi, e⟩ := this
      simpa using e.symm
    subst this
    simpa using h.symm
theorem wd_range {K : PySem.W.Frag} {lo : Int} {n : Nat} {G0 : Hp} : WD K (Itr lo n) (rgD lo 1 n) G0 := by
  refine ⟨YFn fun i => .int (lo + i), ?_, fun i H x H' d y hd B L σ G hK E0 gs => ?_⟩
  · rw [rgD_length]
    exact walk_range.mono (fun _ _ => trivial) fun _ _ _ _ _ _ y => y
  · obtain ⟨rfl, rfl⟩ := y
    rw [rgD_get hd, Int.mul_one]
    exact ⟨G, .refl, E0, .int _⟩
theorem wd_pair {K : PySem.W.Frag} {J : It} {n : Nat} {xs ys : Nat → Option V} {dx dy : Nat → Option D} {ds : List D} {G0 : Hp} (hn : ds.length = n) (w : Walk J n (fun H => GSub G0 H) (YPair xs ys))
    (hx : ∀ i x d, xs i = some x → dx i = some d → Rp K G0 x d) (hy : ∀ i x d, ys i = some x → dy i = some d → Rp K G0 x d) (hd : ∀ i d, ds[i]? = some d → ∃ a b, dx i = some a ∧ dy i = some b ∧ d = .tup [a, b]) : WD K J ds G0 := by
  refine ⟨YPair xs ys, hn ▸ w, fun i H v H' d y h B L σ G hK E0 gs => ?_⟩
  obtain ⟨T, x, y, rfl, hT, rfl, h1, h2⟩ := y
  obtain ⟨a, b, k1, k2, rfl⟩ := hd i d h
  subst hK
  obtain ⟨G', E1, S1, R1⟩ := RR.freshG E0 hT (.cons ((hx i x a h1 k1).mono gs) (.cons ((hy i y b h2 k2).mono gs) .nil))
  exact ⟨G', S1, E1, R1⟩
/-- pairs of items -/
def zipD (xs ys : List D) : List D := (xs.zip ys).map fun p => .tup [p.1, p.2]
def enumD (xs : List D) : List D := ((List.range xs.length).zip xs).map fun p => .tup [.int p.1, p.2]
theorem zipD_get {xs ys : List D} {i : Nat} {d : D} (h : (zipD xs ys)[i]? = some d) : ∃ a b, xs[i]? = some a ∧ ys[i]? = some b ∧ d = .tup [a, b] := by
  unfold zipD at h
  rw [List.getElem?_map, Option.map_eq_some_iff] at h
  obtain ⟨⟨a, b⟩, h1, rfl⟩ := h
  rw [List.getElem?_zip_eq_some] at h1
  exact ⟨a, b, h1.1, h1.2, rfl⟩
theorem enumD_get {xs : List D} {i : Nat} {d : D} (h : (enumD xs)[i]? = some d) : ∃ a b, (some (D.int i)) = some a ∧ xs[i]? = some b ∧ d = .tup [a, b] := by
  unfold enumD at h
  rw [List.getElem?_map, Option.map_eq_some_iff] at h
  obtain ⟨⟨a, b⟩, h1, rfl⟩ := h
  rw [List.getElem?_zip_eq_some] at h1
  have e : a = i := by
    obtain ⟨hi, e⟩ := List.getElem?_eq_some_iff.mp h1.1
    simpa using e.symm
  subst e
  exact ⟨_, b, rfl, h1.2, rfl⟩
section
variable {X : Cx} {E : XK} {e e2 a b c tg : Expr} {es : List Expr} {st : Stmt} {sts : List Stmt} {pos : Pos} {f fa fb fc : DE} {g h : DS}
/-- a list or a tuple, walked -/
def iSeq (K : PySem.W.Frag) (tl : TE) : TI := fun σ H R => tl σ H fun x H1 => ∃ a, x = .ref a ∧ (((∃ xs, SqL K H1 a xs) ∧ R (Itl K a) H1) ∨ ((∃ xs, SqT K H1 a xs) ∧ R (Itt K a) H1))
theorem pi_seq {l : Expr} {tl : TE} (hl : PE X l tl) : PI X tg l (iSeq X.K tl) := by
  refine ⟨fun pins s σ H R I h => ?_⟩
  refine thn (hl.run pins s σ H _ I h) fun v s1 ⟨x, H1, I1, r1, q1⟩ => ?_
  obtain ⟨a, e, q1⟩ := q1
  subst e
  cases r1
  rcases q1 with ⟨⟨xs, hq⟩, q⟩ | ⟨⟨xs, hq⟩, q⟩
  · obtain ⟨its, rv, p, hz⟩ := I1.list hq
    refine wpAny_pyIter_list p.isList ?_
    refine ⟨s1.heap.objs.size, [s1.heap.objs.size], _, _, H1, rfl, I1.kept (t' := s1.toks) fun b o e => Heap.get?_push_of_some _ e, turn_list a _, ⟨_, Heap.get?_push_size _ rfl, rfl, rfl⟩, fun b hb => ?_, q⟩
    have e : b = s1.heap.objs.size := by simpa using hb
    subst e
    exact I1.fpOk (Nat.le_refl _) (I1.hok.fresh (Nat.le_refl _))
  · obtain ⟨its, rv, p, hz⟩ := I1.tuple hq
    refine wpAny_pyIter_tuple (show s1.heap.IsTuple a its.toArray from p) ?_
    refine ⟨s1.heap.objs.size, [s1.heap.objs.size], _, _, H1, rfl, I1.kept (t' := s1.toks) fun b o e => Heap.get?_push_of_some _ e, turn_tuple a _, ⟨_, Heap.get?_push_size _ rfl, rfl, rfl⟩, fun b hb => ?_, q⟩
    have e : b = s1.heap.objs.size := by simpa using hb
    subst e
    exact I1.fpOk (Nat.le_refl _) (I1.hok.fresh (Nat.le_refl _))
def items : D → Option (List D)
  | .lst xs => some xs
  | .tup xs => some xs
  | _ => none
def dISeq (f : DE) : LS → Rs (List D) := fun L => (f L).bind fun r L1 => match fz L1 r with
  | some (d, L2) => match items d with
    | some ds => .ok ds L2
    | none => .stuck
  | none => .stuck
theorem di_seq (hl : DEx X E e f) : DIx X E tg e (dISeq f) := PI.imp (pi_seq hl) fun σ H R ⟨B, L, G, hK, E0, P⟩ =>
  ⟨B, L, G, hK, E0, PostG.next P .refl fun r1 L1 v1 H1 G1 S1 E1 R1 P1 => by
    split at P1
    · rename_i d L2 p
      split at P1
      · rename_i ds q
        obtain ⟨G2, S2, E2, r2⟩ := fz_ok E0 E1 S1 R1 p
        cases d with
        | lst xs =>
          cases q
          cases r2 with
          | lst h1 h2 => exact ⟨_, rfl, .inl ⟨⟨_, .of (E2.sub _ _ h1)⟩, P1 _ H1 G2 S2 E2 (by rw [← hK]; exact wd_list h1 h2)⟩⟩
        | tup xs =>
          cases q
          cases r2 with
          | tup h1 h2 => exact ⟨_, rfl, .inr ⟨⟨_, .of (E2.sub _ _ h1)⟩, P1 _ H1 G2 S2 E2 (by rw [← hK]; exact wd_tup h1 h2)⟩⟩
        | _ => cases q
      · exact P1.elim
    · exact P1.elim⟩
def rgOk (i : Int) : Bool := decide (-(2 ^ 62) ≤ i) && decide (i < 2 ^ 62)
theorem rgOk_ok {i : Int} (h : rgOk i = true) : -(2 ^ 62) ≤ i ∧ i < 2 ^ 62 := by
  unfold rgOk at h
  simpa using h
def onRg1 : List D → Option (List D)
  | [.int j] => if rgOk j = true then some (rgD 0 1 j.toNat) else none
  | _ => none
def onRg2 : List D → Option (List D)
  | [.int i, .int j] => if (rgOk i && rgOk j) = true then some (rgD i 1 (j - i).toNat) else none
  | _ => none
def dIRg (on : List D → Option (List D)) (as : DA) : LS → Rs (List D) := fun L => (as L).bind fun rs L1 => match peeks L1 rs with
  | some ds => match on ds with
    | some xs => .ok xs L1
    | none => .stuck
  | none => .stuck
theorem RpNs.int1 {K : PySem.W.Frag} {H G : Hp} {vs : List V} {i : Int} (h : RpNs K H G vs [.int i]) : vs = [.int i] := by
  cases h with | cons r q => cases q; rw [r.int]
theorem di_range1 {as : DA} {p : Pos} (hg : Gl X "range") (hm : X.mg "range" = none) (ha : DLx X E [a] as) (hs : starEach [a] X.env = [(false, eval a X.env)] := by rfl) : DIx X E tg (.Call (.Name "range" p) [a] [] pos) (dIRg onRg1 as) :=
  PI.imp (pi_range1 hg hm ha hs) fun σ H R ⟨B, L, G, hK, E0, P⟩ => ⟨B, L, G, hK, E0, PostG.next P .refl fun rs L1 vs H1 G1 S1 E1 R1 P1 => by
    split at P1
    · rename_i ds p1
      split at P1
      · rename_i xs q
        have rr := peeks_ok E1 R1 p1
        unfold onRg1 at q
        split at q
        · split at q
          · rename_i c
            cases q
            have e := rr.int1
            subst e
            exact ⟨_, rfl, (rgOk_ok c).1, (rgOk_ok c).2, P1 _ H1 G1 S1 E1 wd_range⟩
          · cases q
        · cases q
      · exact P1.elim
    · exact P1.elim⟩
/-- arguments frozen, for what keeps its argument -/
def dIZip (as : LS → Rs (List D)) : LS → Rs (List D) := fun L => (as L).bind fun ds L1 => match ds with
  | [.lst xs, .lst ys] => .ok (zipD xs ys) L1
  | [.tup xs, .tup ys] => .ok (zipD xs ys) L1
  | _ => .stuck
theorem zipD_length (xs ys : List D) : (zipD xs ys).length = min xs.length ys.length := by simp [zipD]
theorem di_zip {as : LS → Rs (List D)} {p tpos : Pos} {elts : List Expr} {kk : Nat} (hg : Gl X "zip") (hm : X.mg "zip" = none) (ha : DFx X E [e, e2] as)
    (hs : starEach [e, e2] X.env = (false, eval e X.env) :: starEach [e2] X.env := by rfl) (hpl : (backTo pos (starEach [e2] X.env)).any (·.1) = false := by rfl) :
    DIx X E (.Tuple elts kk tpos) (.Call (.Name "zip" p) [e, e2] [] pos) (dIZip as) :=
  PI.imp (pi_zipA hg hm ha hs hpl) fun σ H R ⟨B, L, G, hK, E0, P⟩ => ⟨B, L, G, hK, E0, PostG.next P .refl fun ds L1 vs H1 G1 S1 E1 R1 P1 => by
    have R1' : Rps B.K G1 vs ds := R1
    split at P1
    · cases R1' with | cons r q => cases q with | cons r' q =>
        cases q
        cases r with | lst h1 h2 => cases r' with | lst h3 h4 =>
        refine ⟨_, _, _, _, rfl, .inl ⟨.of (E1.sub _ _ h1), .of (E1.sub _ _ h3), P1 _ H1 G1 S1 E1 ?_⟩⟩
        rw [← hK]
        refine wd_pair (zipD_length _ _) ((walk_zip (by rw [h2.length, h4.length])).mono (fun H q => ⟨.of (q _ _ h1), .of (q _ _ h3)⟩) fun _ _ _ _ _ _ y => y) ?_ ?_ fun i d q => zipD_get q
        · intro i x d k1 k2; obtain ⟨v, k3, k4⟩ := h2.get k2; rw [k1] at k3; cases k3; exact k4
        · intro i x d k1 k2; obtain ⟨v, k3, k4⟩ := h4.get k2; rw [k1] at k3; cases k3; exact k4
    · cases R1' with | cons r q => cases q with | cons r' q =>
        cases q
        cases r with | tup h1 h2 => cases r' with | tup h3 h4 =>
        refine ⟨_, _, _, _, rfl, .inr ⟨.of (E1.sub _ _ h1), .of (E1.sub _ _ h3), P1 _ H1 G1 S1 E1 ?_⟩⟩
        rw [← hK]
        refine wd_pair (zipD_length _ _) ((walk_zipT (by rw [h2.length, h4.length])).mono (fun H q => ⟨.of (q _ _ h1), .of (q _ _ h3)⟩) fun _ _ _ _ _ _ y => y) ?_ ?_ fun i d q => zipD_get q
        · intro i x d k1 k2; obtain ⟨v, k3, k4⟩ := h2.get k2; rw [k1] at k3; cases k3; exact k4
        · intro i x d k1 k2; obtain ⟨v, k3, k4⟩ := h4.get k2; rw [k1] at k3; cases k3; exact k4
    · exact P1.elim⟩
end
end DV
end
section
set_option Elab.async false
set_option linter.all false
set_option maxRecDepth 100000
set_option maxHeartbeats 4000000
namespace DV
open PySem PySem.Spec PyProof.Rows L2
/-! ### comprehensions -/
def wipeL (L : LS) : List Nat → LS
  | [] => L
  | v :: vs => (wipeL L vs).set v .un
theorem wipeL_length (L : LS) : ∀ vs : List Nat, (wipeL L vs).length = L.length
  | [] => rfl
  | v :: vs => by unfold wipeL; rw [List.length_set, wipeL_length L vs]
theorem wipeL_get {L : LS} {i : Nat} {s : Sl} : ∀ {vs : List Nat}, (wipeL L vs)[i]? = some s → s = .un ∨ (L[i]? = some s ∧ i ∉ vs)
  | [], h => .inr ⟨h, by simp⟩
  | v :: vs, h => by
    unfold wipeL at h
    by_cases c : v = i
    · subst c
      by_cases hv : v < (wipeL L vs).length
      · rw [List.getElem?_set_self hv] at h; cases h; exact .inl rfl
      · rw [List.getElem?_eq_none (by rw [List.length_set]; omega)] at h; cases h
    · rw [List.getElem?_set_ne c] at h
      rcases wipeL_get h with h | ⟨h1, h2⟩
      · exact .inl h
      · exact .inr ⟨h1, by simp [h2, Ne.symm c]⟩
theorem wipe_get {σ : St} {i : Nat} : ∀ {vs : List Nat}, i ∉ vs → (wipe σ vs)[i]? = σ[i]?
  | [], _ => rfl
  | v :: vs, h => by
    unfold wipe
    simp only [List.mem_cons, not_or] at h
    rw [List.getElem?_set_ne (Ne.symm h.1)]
    exact wipe_get h.2
/-- slots that are not known may hold anything -/
theorem EnvOk.swap {B : Bs} {L L' : LS} {σ σ' : St} {H G : Hp} (E0 : EnvOk B L σ H G) (hl : L'.length = σ'.length) (h : ∀ (i : Nat) s, L'[i]? = some s → s ≠ .un → L[i]? = some s ∧ σ'[i]? = σ[i]?) : EnvOk B L' σ' H G := by
  have obj : ∀ a, ObjAt L' σ' a → ObjAt L σ a := fun a ⟨j, m, x, h1, h2⟩ => by
    obtain ⟨k1, k2⟩ := h j _ h1 (by intro z; cases z)
    exact ⟨j, m, x, k1, k2 ▸ h2⟩
  refine ⟨hl, E0.sub, E0.old, E0.new, E0.keep, E0.dom, fun i s k => ?_, fun i j m n d e a h1 h2 h3 h4 => ?_⟩
  · cases s with
    | un => trivial
    | val d => obtain ⟨k1, k2⟩ := h i _ k (by intro z; cases z); rw [k2]; exact E0.at_ i _ k1
    | bor d =>
      obtain ⟨k1, k2⟩ := h i _ k (by intro z; cases z)
      rw [k2]
      obtain ⟨v, e1, r⟩ := E0.at_ i _ k1
      refine ⟨v, e1, ?_⟩
      rcases r with r | ⟨a, o, e2, q1, q2, q3, q4⟩
      · exact .inl r
      · exact .inr ⟨a, o, e2, q1, q2, fun z => q3 (obj a z), q4⟩
    | par d => obtain ⟨k1, k2⟩ := h i _ k (by intro z; cases z); rw [k2]; exact E0.at_ i _ k1
    | nst fs d => obtain ⟨k1, k2⟩ := h i _ k (by intro z; cases z); rw [k2]; exact E0.at_ i _ k1
    | obj m d => obtain ⟨k1, k2⟩ := h i _ k (by intro z; cases z); rw [k2]; exact E0.at_ i _ k1
  · obtain ⟨k1, k2⟩ := h i _ h1 (by intro z; cases z)
    obtain ⟨k3, k4⟩ := h j _ h2 (by intro z; cases z)
    exact E0.inj i j m n d e a k1 k3 (k2 ▸ h3) (k4 ▸ h4)
theorem Stp.swap {L L1 : LS} {σ σ' : St} {H G H' G' : Hp} {L' : LS} (S : Stp L1 σ' H G L' H' G') (h : ∀ (i : Nat) m d, L1[i]? = some (.obj m d) → L[i]? = some (.obj m d) ∧ σ[i]? = σ'[i]?) : Stp L σ H G L' H' G' := by
  have obj : ∀ a, ObjAt L1 σ' a → ObjAt L σ a := fun a ⟨j, m, x, h1, h2⟩ => by
    obtain ⟨k1, k2⟩ := h j _ _ h1
    exact ⟨j, m, x, k1, k2 ▸ h2⟩
  have wr : ∀ a, WrAt L1 σ' a → WrAt L σ a := fun a ⟨j, m, x, w, h1, h2⟩ => by
    obtain ⟨k1, k2⟩ := h j _ _ h1
    exact ⟨j, m, x, w, k1, k2 ▸ h2⟩
  refine ⟨S.gsub, fun a o k => ?_, fun a o k n => S.keep a o k fun z => n (wr a z), S.dom, fun i m d k => ?_⟩
  · rcases S.gnew a o k with q | q | q
    · exact .inl q
    · exact .inr (.inl q)
    · exact .inr (.inr (obj a q))
  · obtain ⟨e, q⟩ := S.own i m d k
    exact ⟨e, (h i m e q).1⟩
/-- slots forgotten behind a step -/
theorem Stp.forget {L L' L2 : LS} {σ : St} {H G H' G' : Hp} (S : Stp L σ H G L' H' G') (h : ∀ (i : Nat) m d, L2[i]? = some (.obj m d) → L'[i]? = some (.obj m d)) : Stp L σ H G L2 H' G' :=
  ⟨S.gsub, S.gnew, S.keep, S.dom, fun i m d k => S.own i m d (h i m d k)⟩
/-- an object that no slot knows of is changed -/
theorem EnvOk.poke {B : Bs} {L : LS} {σ : St} {H G : Hp} (E0 : EnvOk B L σ H G) {p : Addr} {o : HO} (g : G p = none) (b : B.H0 p = none) (n : ¬ ObjAt L σ p) : EnvOk B L σ (upd H p o) G := by
  have gne : ∀ a u, G a = some u → a ≠ p := fun a u k z => by subst z; rw [g] at k; cases k
  have bne : ∀ a, B.H0 a ≠ none → a ≠ p := fun a k z => by subst z; exact k b
  refine ⟨E0.len, fun a u k => by rw [upd_ne (gne a u k)]; exact E0.sub a u k, E0.old, E0.new, fun a u k q => by rw [upd_ne (bne a (some_ne k))]; exact E0.keep a u k q, fun a k => by rw [upd_ne (bne a k)]; exact E0.dom a k, fun i s k => ?_, E0.inj⟩
  have q := E0.at_ i s k
  cases s with
  | un => trivial
  | val d => exact q
  | bor d =>
    obtain ⟨v, e, r⟩ := q
    refine ⟨v, e, ?_⟩
    rcases r with r | ⟨a, u, h1, h2, h3, h4, h5⟩
    · exact .inl r
    · exact .inr ⟨a, u, h1, by rw [upd_ne (bne a h5)]; exact h2, h3, h4, h5⟩
  | par d => exact q
  | nst fs d => exact q
  | obj m d =>
    obtain ⟨a, u, h1, h2, h3, h4, h5⟩ := q
    have ne : a ≠ p := by rintro rfl; exact n ⟨i, m, d, k, h1⟩
    exact ⟨a, u, h1, by rw [upd_ne ne]; exact h2, h3, h4, h5⟩
theorem setVals_un : ∀ {is : List Nat} {ds : List D} {L L' : LS}, setVals is ds L = some L' → L'.length = L.length ∧ ∀ (i : Nat) m d, L'[i]? = some (.obj m d) → L[i]? = some (.obj m d) ∧ i ∉ is
  | [], [], L, L', p => by cases p; exact ⟨rfl, fun i m d h => ⟨h, by simp⟩⟩
  | j :: is, d :: ds, L, L', p => by
    obtain ⟨h1, h2⟩ := setVals_un (is := is) (ds := ds) p
    refine ⟨by rw [h1, List.length_set], fun i m e h => ?_⟩
    obtain ⟨k1, k2⟩ := h2 i m e h
    by_cases c : j = i
    · subst c
      by_cases hj : j < L.length
      · rw [List.getElem?_set_self hj] at k1; cases k1
      · rw [List.getElem?_eq_none (by rw [List.length_set]; omega)] at k1; cases k1
    · rw [List.getElem?_set_ne c] at k1
      exact ⟨k1, by simp [k2, Ne.symm c]⟩
  | [], d :: ds, L, L', p => by cases p
  | j :: is, [], L, L', p => by cases p
theorem tgSet_un {t : Tg} {d : D} {L L' : LS} (p : tgSet t d L = some L') : L'.length = L.length ∧ ∀ (i : Nat) m e, L'[i]? = some (.obj m e) → L[i]? = some (.obj m e) ∧ i ∉ t.ix := by
  cases t with
  | one j => exact setVals_un (is := [j]) (ds := [d]) (by simpa [tgSet, setVals] using p)
  | many is =>
    cases d with
    | tup ds => exact setVals_un p
    | _ => cases p
theorem sets_get {i : Nat} : ∀ {is : List Nat} {vs : List V} {σ : St}, i ∉ is → (sets σ is vs)[i]? = σ[i]?
  | [], _, _, _ => rfl
  | j :: is, [], σ, _ => rfl
  | j :: is, v :: vs, σ, h => by
    simp only [List.mem_cons, not_or] at h
    unfold sets
    rw [sets_get h.2, List.getElem?_set_ne (Ne.symm h.1)]
theorem sets_length : ∀ {is : List Nat} {vs : List V} {σ : St}, (sets σ is vs).length = σ.length
  | [], _, _ => rfl
  | j :: is, [], σ => rfl
  | j :: is, v :: vs, σ => by unfold sets; rw [sets_length, List.length_set]
theorem wipe_none {σ : St} {i : Nat} : ∀ {vs : List Nat}, i ∈ vs → i < σ.length → (wipe σ vs)[i]? = some none
  | v :: vs, h, hi => by
    unfold wipe
    by_cases c : v = i
    · subst c; rw [List.getElem?_set_self (by rw [wipe_length]; exact hi)]
    · rw [List.getElem?_set_ne c]
      exact wipe_none (by simpa [Ne.symm c] using h) hi
/-- wiped slots do not tell what was set there -/
theorem wipe_same {σ σ' : St} {vs : List Nat} (hl : σ'.length = σ.length) (h : ∀ i, i ∉ vs → σ'[i]? = σ[i]?) : wipe σ' vs = wipe σ vs := by
  apply List.ext_getElem?
  intro i
  by_cases c : i ∈ vs
  · by_cases hi : i < σ.length
    · rw [wipe_none c hi, wipe_none c (by omega)]
    · rw [List.getElem?_eq_none (by rw [wipe_length]; omega), List.getElem?_eq_none (by rw [wipe_length]; omega)]
  · rw [wipe_get c, wipe_get c, h i c]
def Rs.wp {α : Type} (vs : List Nat) : Rs α → Rs α
  | .ok x L => .ok x L
  | .exc _ _ => .stuck
  | .stuck => .stuck
@[simp] theorem Rs.wp_ok {α : Type} (vs : List Nat) (x : α) (L : LS) : (Rs.ok x L).wp vs = .ok x L := rfl
def lcL (vs : List Nat) (t : Tg) (cond : DT) (elt : DE) : List D → List D → LS → Rs (List D)
  | [], acc, L => .ok acc L
  | d :: ds, acc, L => match tgSet t d L with
    | none => .stuck
    | some L1 => ((cond L1).wp vs).bind fun b L2 => if b = true then ((elt L2).wp vs).bind fun r L3 => match fz L3 r with
        | some (y, L4) => if lenOk acc.length = true then lcL vs t cond elt ds (acc ++ [y]) (wipeL L4 vs) else .stuck
        | none => .stuck
      else lcL vs t cond elt ds acc (wipeL L2 vs)
def dLC (vs : List Nat) (t : Tg) (fi : LS → Rs (List D)) (cond : DT) (elt : DE) : DE := fun L => (fi L).bind fun ds L1 => (lcL vs t cond elt ds [] (wipeL L1 vs)).bind fun acc L2 => .ok (.t (.lst acc)) L2
def dYes : DT := fun L => .ok true L
def DPx (X : Cx) (E : XK) (ifs : List Expr) (f : DT) : Prop := PTs X ifs (tDT X.K E f)
section
variable {X : Cx} {E : XK} {e e2 a b c tg : Expr} {es : List Expr} {st : Stmt} {sts : List Stmt} {pos : Pos} {f fa fb fc : DE} {g h : DS}
theorem dp_nil : DPx X E [] dYes := ⟨fun pins s σ H Q I ⟨B, L, G, hK, E0, P⟩ => pts_nil.run pins s σ H Q I (P true H G .refl E0 rfl)⟩
theorem tLc_of {K : PySem.W.Frag} {vs : List Nat} {t : Tg} {fi : LS → Rs (List D)} {cond : DT} {elt : DE} (hv : ∀ i ∈ t.ix, i ∈ vs) {σ : St} {H : Hp} {Q : VK} (h : tD K E (dLC vs t fi cond elt) σ H Q) :
    tLc (tDI K E fi) (tgR K t) (tDT K E0 cond) (tD K E0 elt) vs σ H Q := by
  obtain ⟨B, L, G, hK, E0, P⟩ := h
  refine ⟨B, L, G, hK, E0, PostG.next P .refl fun ds L1 J H1 G1 S1 E1 R1 P1 => ?_⟩
  obtain ⟨Y, W, hY⟩ := R1
  intro D hD
  obtain ⟨EL, SL, g0, b0, n0⟩ := E1.laid (o := .lst []) hD
  -- the slots that are not the block's own
  have lw : ∀ {L : LS}, L.length = σ.length → ∀ (i : Nat) s, (wipeL L vs)[i]? = some s → s ≠ .un → L[i]? = some s ∧ (wipe σ vs)[i]? = σ[i]? := fun {L} hl i s k n => by
    rcases wipeL_get k with k | ⟨k1, k2⟩
    · exact absurd k n
    · exact ⟨k1, wipe_get k2⟩
  have E1w : EnvOk B (wipeL L1 vs) (wipe σ vs) (upd H1 D (.lst [])) G1 := EL.swap (by rw [wipeL_length, wipe_length]; exact E1.len) fun i s k n => lw E1.len i s k n
  refine lc_it W (fun i H => ∃ (L : LS) (G : Hp) (acc : List DV.D) (vacc : List V), EnvOk B L (wipe σ vs) H G ∧ Stp L1 σ H1 G1 L H G ∧ H D = some (.lst vacc) ∧ Rps B.K G vacc acc ∧ G D = none ∧ ¬ ObjAt L (wipe σ vs) D ∧
    (∀ (i : Nat) s, L[i]? = some s → s ≠ .un → i ∉ vs) ∧ lcL vs t cond elt (ds.drop i) acc L = lcL vs t cond elt ds [] (wipeL L1 vs)) ?_ ?_ ?_ ?_
  · refine ⟨wipeL L1 vs, G1, [], [], E1w, SL.forget fun i m d k => ((wipeL_get k).resolve_left (by intro z; cases z)).1, upd_same, .nil, g0, fun ⟨j, m, x, h1, h2⟩ => ?_, fun i s k n => ((wipeL_get k).resolve_left n).2, by simp⟩
    obtain ⟨k1, k2⟩ := lw E1.len j _ h1 (by intro z; cases z)
    exact n0 ⟨j, m, x, k1, k2 ▸ h2⟩
  · rintro i H _ ⟨L, G, acc, vacc, E', S', _⟩
    exact GSub.trans S'.gsub E'.sub
  · rintro i x H2 H3 hi ⟨L2, G2, acc, vacc, E2, S2, hD2, ra, g2, n2, un2, e⟩ y
    obtain ⟨d, hd⟩ : ∃ d, ds[i]? = some d := ⟨ds[i], by simp [hi]⟩
    obtain ⟨G3, S3, E3, r3⟩ := hY i H2 x H3 d y hd B L2 (wipe σ vs) G2 rfl E2 S2.gsub
    have ed : ds.drop i = d :: ds.drop (i + 1) := by
      rw [List.drop_eq_getElem_cons hi]
      rw [List.getElem?_eq_getElem hi] at hd
      rw [Option.some.inj hd]
    rw [ed] at e
    simp only [lcL] at e
    rw [← e] at P1
    cases q : tgSet t d L2 with
    | none => rw [q] at P1; exact P1.elim
    | some L3 =>
      rw [q] at P1 e
      simp only at P1 e
      obtain ⟨hl3, un3⟩ := tgSet_un q
      -- D behind the yield
      have hD3 : H3 D = some (.lst vacc) := S3.keep D _ hD2 fun z => n2 z.obj
      have g3 : G3 D = none := by
        cases z : G3 D with
        | none => rfl
        | some u =>
          rcases S3.gnew D u z with k | k | k
          · rw [g2] at k; cases k
          · rw [hD2] at k; cases k
          · exact absurd k n2
      -- a step from L2 (wiped) is a step from L1 with σ
      have sw : ∀ {L' : LS}, (∀ (i : Nat) m d, L'[i]? = some (.obj m d) → L2[i]? = some (.obj m d)) → True := fun _ => trivial
      refine tg_ok hK E3 r3 q fun ws E4 => ?_
      have σ2 : wipe (sets (wipe σ vs) t.ix ws) vs = wipe σ vs := by
        have e1 : wipe (sets (wipe σ vs) t.ix ws) vs = wipe (wipe σ vs) vs := wipe_same sets_length fun i hi => sets_get fun z => hi (hv i z)
        rw [e1]
        exact wipe_same (wipe_length σ vs) fun i hi => wipe_get hi
      refine ⟨σ2, ?_⟩
      have n3 : ¬ ObjAt L3 (sets (wipe σ vs) t.ix ws) D := fun ⟨j, m, z, h1, h2⟩ => by
        obtain ⟨k1, k2⟩ := un3 j m z h1
        rw [sets_get k2] at h2
        exact n2 ⟨j, m, z, k1, h2⟩
      -- from a state of the block back to the loop
      have S13 : Stp L1 σ H1 G1 L2 H3 G3 := S2.trans (Stp.swap (L := L2) S3 fun i m d k => ⟨k, by
        rw [wipe_get (un2 i _ k (by intro z; cases z))]⟩)
      have toL2 : ∀ {L' : LS} {H' G' : Hp}, Stp L3 (sets (wipe σ vs) t.ix ws) H3 G3 L' H' G' → Stp L1 σ H1 G1 L' H' G' := fun {L' H' G'} S => S13.trans (Stp.swap (L := L2) S fun i m d k => by
        obtain ⟨k1, k2⟩ := un3 i m d k
        exact ⟨k1, by rw [sets_get k2, wipe_get (un2 i _ k1 (by intro z; cases z))]⟩)
      have keepD : ∀ {L' : LS} {H' G' : Hp}, Stp L3 (sets (wipe σ vs) t.ix ws) H3 G3 L' H' G' → H' D = some (.lst vacc) ∧ G' D = none ∧ ¬ ObjAt L' (sets (wipe σ vs) t.ix ws) D := fun {L' H' G'} S => by
        refine ⟨S.keep D _ hD3 fun z => n3 z.obj, ?_, fun z => n3 (S.objs z)⟩
        cases z : G' D with
        | none => rfl
        | some u =>
          rcases S.gnew D u z with k | k | k
          · rw [g3] at k; cases k
          · rw [hD3] at k; cases k
          · exact absurd k n3
      have back : ∀ {L' : LS} {H' G' : Hp}, EnvOk B L' (sets (wipe σ vs) t.ix ws) H' G' → EnvOk B (wipeL L' vs) (wipe σ vs) H' G' := fun {L' H' G'} E => E.swap (by rw [wipeL_length, E.len, sets_length]) fun i s k n => by
        obtain ⟨k1, k2⟩ := (wipeL_get k).resolve_left n
        exact ⟨k1, by rw [sets_get fun z => k2 (hv i z)]⟩
      have backN : ∀ {L' : LS}, ¬ ObjAt L' (sets (wipe σ vs) t.ix ws) D → ¬ ObjAt (wipeL L' vs) (wipe σ vs) D := fun {L'} n ⟨j, m, z, h1, h2⟩ => by
        obtain ⟨k1, k2⟩ := (wipeL_get h1).resolve_left (by intro z; cases z)
        exact n ⟨j, m, z, k1, by rw [sets_get fun z => k2 (hv j z)]; exact h2⟩
      have bD : B.H0 D = none := b0
      refine ⟨B, L3, G3, hK, E4, ?_⟩
      -- the condition
      cases qc : cond L3 with
      | stuck => rw [qc] at P1; exact P1.elim
      | exc x L4 => rw [qc] at P1; exact P1.elim
      | ok bb L4 =>
        rw [qc] at P1 e
        simp only [Rs.wp_ok, Rs.bind_ok] at P1 e
        intro v H4 G4 S4 E4' r
        have ev : v = bb := r
        subst ev
        cases v with
        | false =>
          rw [if_neg Bool.false_ne_true] at P1 e
          rw [if_neg Bool.false_ne_true]
          obtain ⟨k1, k2, k3⟩ := keepD S4
          exact ⟨wipeL L4 vs, G4, acc, vacc, back E4', (toL2 S4).forget fun i m d k => ((wipeL_get k).resolve_left (by intro z; cases z)).1, k1, ra.mono (GSub.trans S3.gsub S4.gsub), k2, backN k3, fun i s k n => ((wipeL_get k).resolve_left n).2, e⟩
        | true =>
          rw [if_pos rfl] at P1 e
          rw [if_pos rfl]
          refine ⟨B, L4, G4, hK, E4', ?_⟩
          cases qe : elt L4 with
          | stuck => rw [qe] at P1; exact P1.elim
          | exc x L5 => rw [qe] at P1; exact P1.elim
          | ok r5 L5 =>
            rw [qe] at P1 e
            simp only [Rs.wp_ok, Rs.bind_ok] at P1 e
            intro v5 H5 G5 S5 E5 R5
            cases qf : fz L5 r5 with
            | none => rw [qf] at P1; exact P1.elim
            | some p =>
              obtain ⟨y5, L6⟩ := p
              rw [qf] at P1 e
              simp only at P1 e
              cases ql : lenOk acc.length with
              | false => rw [ql] at P1; exact P1.elim
              | true =>
                rw [ql, if_pos rfl] at P1 e
                obtain ⟨G6, S6, E6, r6⟩ := fz_ok E4' E5 S5 R5 qf
                have S46 := S4.trans S6
                obtain ⟨k1, k2, k3⟩ := keepD S46
                have ra6 := ra.mono (GSub.trans S3.gsub S46.gsub)
                refine ⟨vacc, k1, by rw [ra.length]; exact lenOk_lt ql, wipeL L6 vs, G6, acc ++ [y5], vacc ++ [v5], (back E6).poke k2 bD (backN k3), ?_, upd_same, ra6.append (.cons r6 .nil), k2, backN k3, fun i s k n => ((wipeL_get k).resolve_left n).2, e⟩
                have S16 := (toL2 S46).forget (L2 := wipeL L6 vs) fun i m d k => ((wipeL_get k).resolve_left (by intro z; cases z)).1
                refine ⟨S16.gsub, S16.gnew, fun a o h n => ?_, fun a h => ?_, S16.own⟩
                · have ne : a ≠ D := by rintro rfl; rw [hD] at h; cases h
                  rw [upd_ne ne]; exact S16.keep a o h n
                · have ne : a ≠ D := by rintro rfl; exact h hD
                  rw [upd_ne ne]; exact S16.dom a h
  · rintro H2 ⟨L2, G2, acc, vacc, E2, S2, hD2, ra, g2, n2, un2, e⟩
    rw [List.drop_length] at e
    rw [← e] at P1
    have E2' : EnvOk B L2 σ H2 G2 := E2.swap (by rw [E2.len, wipe_length]) fun i s k n => ⟨k, by rw [wipe_get (un2 i s k n)]⟩
    refine P1 _ H2 G2 (S1.trans S2) E2' ⟨D, _, rfl, hD2, .lst ra, g2, ?_, fun ⟨j, m, z, h1, h2⟩ => n2 ⟨j, m, z, h1, by rw [wipe_get (un2 j _ h1 (by intro z; cases z))]; exact h2⟩⟩
    cases z : H D with
    | none => rfl
    | some u => exact absurd hD (S1.dom D (some_ne z))
theorem de_lc {elt iter : Expr} {ifs : List Expr} {scope : Scope} {own : List (Str × Nat)} {t : Tg} {fi : LS → Rs (List D)} {cond : DT} {fe : DE} (hc : X.calm = true) (hN : X.N.Nodup) (hi : DIx X E tg iter fi) (ok : BlkOk X.N X.env.scope scope own)
    (hv : (t.ix.all fun i => (own.map (·.2)).contains i) = true)
    (hg : ∀ (s : Shared) (H : Hp) (C : Addr) (cl : List (Str × Addr)) (fp : List Addr), PG (X.blk s H scope (compEnvC scope cl C X.env) fp) tg (tgR X.K t)) (ht : ∀ (s : Shared) (H : Hp) (C : Addr) (cl : List (Str × Addr)) (fp : List Addr), DPx (X.blk s H scope (compEnvC scope cl C X.env) fp) E0 ifs cond)
    (he : ∀ (s : Shared) (H : Hp) (C : Addr) (cl : List (Str × Addr)) (fp : List Addr), DEx (X.blk s H scope (compEnvC scope cl C X.env) fp) E0 elt fe) (hs : ∀ x, foldedSetIterable iter X.env x = pure x := by intro _; rfl) :
    DEx X E (.ListComp elt [⟨tg, iter, ifs, 0⟩] scope pos) (dLC (own.map (·.2)) t fi cond fe) :=
  PE.imp (pe_lc (tt := tDT X.K E0 cond) (te := tD X.K E0 fe) hc hN hi ok hg ht he hs) fun _ _ _ h => tLc_of (fun i hi => by simpa using List.all_eq_true.mp hv i hi) h
theorem ds_asgLc {i : Nat} {y : Str} {py spos : Pos} {elt iter : Expr} {ifs : List Expr} {scope : Scope} {own : List (Str × Nat)} {t : Tg} {fi : LS → Rs (List D)} {cond : DT} {fe : DE} (hc : X.calm = true) (hN : X.N.Nodup) (hy : X.N[i]? = some y) (hyl : X.env.scope.names.lookup y = some .local)
    (hsw : swapsWith (.ListComp elt [⟨tg, iter, ifs, 0⟩] scope pos) (some (.Name y py)) spos.line X.env = pure true) (hi : DIx X E tg iter fi) (ok : BlkOk X.N X.env.scope scope own)
    (hv : (t.ix.all fun i => (own.map (·.2)).contains i) = true)
    (hg : ∀ (s : Shared) (H : Hp) (C : Addr) (cl : List (Str × Addr)) (fp : List Addr), PG (X.blk s H scope (compEnvC scope cl C X.env) fp) tg (tgR X.K t)) (ht : ∀ (s : Shared) (H : Hp) (C : Addr) (cl : List (Str × Addr)) (fp : List Addr), DPx (X.blk s H scope (compEnvC scope cl C X.env) fp) E0 ifs cond)
    (he : ∀ (s : Shared) (H : Hp) (C : Addr) (cl : List (Str × Addr)) (fp : List Addr), DEx (X.blk s H scope (compEnvC scope cl C X.env) fp) E0 elt fe) (hs : ∀ x, foldedSetIterable iter X.env x = pure x := by intro _; rfl) :
    DSx X E (.Assign [.Name y py] (.ListComp elt [⟨tg, iter, ifs, 0⟩] scope pos) spos) (dAsg i (dLC (own.map (·.2)) t fi cond fe)) :=
  PS.imp (ps_setLc (tt := tDT X.K E0 cond) (te := tD X.K E0 fe) hc hN hy hyl hsw hi ok hg ht he hs) fun D σ H ⟨B, L, G, hK, E0, P⟩ => by
    refine tLc_of (fun i hi => by simpa using List.all_eq_true.mp hv i hi) ⟨B, L, G, hK, E0, PostS.next P fun r L1 v H1 G1 S1 E1 R1 P1 => ?_⟩
    split at P1
    · rename_i L2 p
      obtain ⟨G2, gs, E2⟩ := asgR_ok E1 E0.dom R1 p
      exact P1 _ H1 G2 gs E2
    · exact P1.elim
end
end DV
end
section
set_option Elab.async false
set_option linter.all false
set_option maxRecDepth 100000
set_option maxHeartbeats 4000000
namespace DV
open PySem PySem.Spec PyProof.Rows L2
/-! ### what a def promises -/
inductive Pm where
  | val | bor | io
  deriving DecidableEq
inductive Ro where
  | ok (fr : Bool) (d : D) (outs : List D) | exc (e : Ex) (outs : List D) | stuck
abbrev Mir := List D → Ro
/-- a value that callers' frames hold on to: data, or an object that may be read -/
def RpB (K : PySem.W.Frag) (H G : Hp) (io : List Addr) (v : V) (d : D) : Prop := Rp K G v d ∨ ∃ a o, v = .ref a ∧ H a = some o ∧ Ob K G o d ∧ a ∉ io
def IoOk (K : PySem.W.Frag) (H G : Hp) (a : Addr) (d : D) : Prop := ∃ o, H a = some o ∧ Ob K G o d ∧ G a = none
/-- the arguments; io: the addresses of those that are changed, in order -/
inductive Args (K : PySem.W.Frag) (H G : Hp) (io : List Addr) : List Pm → List V → List D → List Addr → Prop
  | nil : Args K H G io [] [] [] []
  | val {ms vs ds ios} {v : V} {d : D} : Rp K G v d → Args K H G io ms vs ds ios → Args K H G io (.val :: ms) (v :: vs) (d :: ds) ios
  | bor {ms vs ds ios} {v : V} {d : D} : RpB K H G io v d → Args K H G io ms vs ds ios → Args K H G io (.bor :: ms) (v :: vs) (d :: ds) ios
  | io {ms vs ds ios} {a : Addr} {d : D} : IoOk K H G a d → Args K H G io ms vs ds ios → Args K H G io (.io :: ms) (.ref a :: vs) (d :: ds) (a :: ios)
inductive Outs (K : PySem.W.Frag) (H G : Hp) : List Addr → List D → Prop
  | nil : Outs K H G [] []
  | cons {a d ios ds} : IoOk K H G a d → Outs K H G ios ds → Outs K H G (a :: ios) (d :: ds)
structure After (K : PySem.W.Frag) (H G : Hp) (ios : List Addr) (outs : List D) (H' G' : Hp) : Prop where
  gsub : GSub G G'
  sub : GSub G' H'
  new : ∀ a o, G' a = some o → G a = some o ∨ H a = none
  keep : ∀ a o, H a = some o → a ∉ ios → H' a = some o
  dom : ∀ a, H a ≠ none → H' a ≠ none
  outs : Outs K H' G' ios outs
def Res (K : PySem.W.Frag) (H H' G' : Hp) (v : V) (fr : Bool) (d : D) : Prop :=
  if fr = true then ∃ a o, v = .ref a ∧ H' a = some o ∧ Ob K G' o d ∧ G' a = none ∧ H a = none else Rp K G' v d
def spD (K : PySem.W.Frag) (ms : List Pm) (m : Mir) : Sp := fun vs H Q E => ∃ G ds ios, GSub G H ∧ Args K H G ios ms vs ds ios ∧ ios.Nodup ∧
  match m ds with
  | .ok fr d outs => ∀ v H' G', After K H G ios outs H' G' → Res K H H' G' v fr d → Q v H'
  | .exc e outs => ∀ C dx H' G', After K H G ios outs H' G' → ExR K H' G' C dx e → E C dx H'
  | .stuck => False
theorem Args.len {K : PySem.W.Frag} {H G : Hp} {io : List Addr} : ∀ {ms vs ds ios}, Args K H G io ms vs ds ios → vs.length = ms.length
  | _, _, _, _, .nil => rfl
  | _, _, _, _, .val _ q => by simp [q.len]
  | _, _, _, _, .bor _ q => by simp [q.len]
  | _, _, _, _, .io _ q => by simp [q.len]
theorem Args.len2 {K : PySem.W.Frag} {H G : Hp} {io : List Addr} : ∀ {ms vs ds ios}, Args K H G io ms vs ds ios → ds.length = ms.length
  | _, _, _, _, .nil => rfl
  | _, _, _, _, .val _ q => by simp [q.len2]
  | _, _, _, _, .bor _ q => by simp [q.len2]
  | _, _, _, _, .io _ q => by simp [q.len2]
theorem Args.ios {K : PySem.W.Frag} {H G : Hp} {io : List Addr} : ∀ {ms vs ds ios}, Args K H G io ms vs ds ios → ∀ a ∈ ios, ∃ d, IoOk K H G a d
  | _, _, _, _, .nil, a, h => by cases h
  | _, _, _, _, .val _ q, a, h => q.ios a h
  | _, _, _, _, .bor _ q, a, h => q.ios a h
  | _, _, _, _, .io k q, a, h => by
    rcases List.mem_cons.mp h with rfl | h
    · exact ⟨_, k⟩
    · exact q.ios a h
/-! ### the def's body -/
def initL : List Pm → List D → Nat → LS
  | .val :: ms, d :: ds, k => .val d :: initL ms ds k
  | .bor :: ms, d :: ds, k => .bor d :: initL ms ds k
  | .io :: ms, d :: ds, k => .obj (.io k) d :: initL ms ds (k + 1)
  | _, _, _ => []
def startL (ms : List Pm) (n : Nat) (ds : List D) : LS := initL ms ds 0 ++ List.replicate (n - ms.length) .un
theorem initL_length : ∀ (ms : List Pm) (ds : List D) (k : Nat), ds.length = ms.length → (initL ms ds k).length = ms.length
  | [], [], _, _ => rfl
  | .val :: ms, d :: ds, k, h => by simp [initL, initL_length ms ds k (by simpa using h)]
  | .bor :: ms, d :: ds, k, h => by simp [initL, initL_length ms ds k (by simpa using h)]
  | .io :: ms, d :: ds, k, h => by simp [initL, initL_length ms ds (k + 1) (by simpa using h)]
/-- the io parameters' slots: (slot, its number) -/
def ioIx : List Pm → Nat → Nat → List (Nat × Nat)
  | [], _, _ => []
  | .io :: ms, i, k => (i, k) :: ioIx ms (i + 1) (k + 1)
  | _ :: ms, i, k => ioIx ms (i + 1) k
def outAt (L : LS) (p : Nat × Nat) : Option D := match L[p.1]? with
  | some (.obj (.io k) d) => if k = p.2 then some d else none
  | _ => none
def outsL (L : LS) : List (Nat × Nat) → Option (List D)
  | [] => some []
  | p :: ps => match outAt L p, outsL L ps with
    | some d, some ds => some (d :: ds)
    | _, _ => none
def resL (L : LS) : R → Option (Bool × D)
  | .v d => some (false, d)
  | .t d => some (true, d)
  | .s i => match L[i]? with
    | some (.val d) => some (false, d)
    | some (.obj .own d) => some (true, d)
    | _ => none
def endL (ms : List Pm) : Fl → Ro
  | .nx L => match outsL L (ioIx ms 0 0) with
    | some outs => .ok false .non outs
    | none => .stuck
  | .ret r L => match outsL L (ioIx ms 0 0), resL L r with
    | some outs, some p => .ok p.1 p.2 outs
    | _, _ => .stuck
  | .exc e L => match outsL L (ioIx ms 0 0) with
    | some outs => .exc e outs
    | none => .stuck
  | _ => .stuck
def runF (ms : List Pm) (n : Nat) (g : DS) : Mir := fun ds => endL ms (g (startL ms n ds))
theorem Args.initAt {K : PySem.W.Frag} {H G : Hp} {io : List Addr} : ∀ {ms vs ds ios} {k : Nat}, Args K H G io ms vs ds ios → ∀ (i : Nat) s, (initL ms ds k)[i]? = some s → ∃ v, vs[i]? = some v ∧
    ((∃ d, s = .val d ∧ Rp K G v d) ∨ (∃ d, s = .bor d ∧ RpB K H G io v d) ∨ ∃ j d a, s = .obj (.io (k + j)) d ∧ ios[j]? = some a ∧ v = .ref a ∧ IoOk K H G a d)
  | _, _, _, _, k, .nil, i, s, h => by simp [initL] at h
  | _, _, _, _, k, .val r q, i, s, h => by
    cases i with
    | zero => simp [initL] at h; subst h; exact ⟨_, rfl, .inl ⟨_, rfl, r⟩⟩
    | succ i => obtain ⟨v, h1, h2⟩ := q.initAt (k := k) i s (by simpa [initL] using h); exact ⟨v, by simpa using h1, h2⟩
  | _, _, _, _, k, .bor r q, i, s, h => by
    cases i with
    | zero => simp [initL] at h; subst h; exact ⟨_, rfl, .inr (.inl ⟨_, rfl, r⟩)⟩
    | succ i => obtain ⟨v, h1, h2⟩ := q.initAt (k := k) i s (by simpa [initL] using h); exact ⟨v, by simpa using h1, h2⟩
  | _, _, _, _, k, .io r q, i, s, h => by
    cases i with
    | zero => simp [initL] at h; subst h; exact ⟨_, rfl, .inr (.inr ⟨0, _, _, rfl, rfl, rfl, r⟩)⟩
    | succ i =>
      obtain ⟨v, h1, h2⟩ := q.initAt (k := k + 1) i s (by simpa [initL] using h)
      refine ⟨v, by simpa using h1, ?_⟩
      rcases h2 with h2 | h2 | ⟨j, d, a, e1, e2, e3, e4⟩
      · exact .inl h2
      · exact .inr (.inl h2)
      · exact .inr (.inr ⟨j + 1, d, a, by rw [e1]; congr 2; omega, by simpa using e2, e3, e4⟩)
theorem initL_obj {ms : List Pm} {ds : List D} : ∀ {k : Nat} {i j : Nat} {m n : Md} {d e : D}, (initL ms ds k)[i]? = some (.obj m d) → (initL ms ds k)[j]? = some (.obj n e) → m = n → i = j := by
  have low : ∀ (ms : List Pm) (ds : List D) (k i : Nat) (m : Md) (d : D), (initL ms ds k)[i]? = some (.obj m d) → ∃ j, m = .io j ∧ k ≤ j := by
    intro ms
    induction ms with
    | nil => intro ds k i m d h; simp [initL] at h
    | cons p ms ih =>
      intro ds k i m d h
      cases ds with
      | nil => cases p <;> simp [initL] at h
      | cons x ds =>
        cases p <;> cases i <;> simp [initL] at h
        · exact ih ds k _ m d h
        · exact ih ds k _ m d h
        · exact ⟨k, h.1.symm, Nat.le_refl _⟩
        · obtain ⟨j, e1, e2⟩ := ih ds (k + 1) _ m d h
          exact ⟨j, e1, by omega⟩
  induction ms generalizing ds with
  | nil => intro k i j m n d e h; simp [initL] at h
  | cons p ms ih =>
    intro k i j m n d e h1 h2 hm
    subst hm
    cases ds with
    | nil => cases p <;> simp [initL] at h1
    | cons x ds =>
      cases p <;> cases i <;> cases j <;> simp [initL] at h1 h2 <;> try rfl
      · exact congrArg (· + 1) (ih h1 h2 rfl)
      · exact congrArg (· + 1) (ih h1 h2 rfl)
      · obtain ⟨q, e1, e2⟩ := low ms ds (k + 1) _ _ _ h2
        rw [← h1.1] at e1; cases e1; omega
      · obtain ⟨q, e1, e2⟩ := low ms ds (k + 1) _ _ _ h1
        rw [← h2.1] at e1; cases e1; omega
      · exact congrArg (· + 1) (ih h1 h2 rfl)
theorem start_ok {K : PySem.W.Frag} {H G : Hp} {ms : List Pm} {vs : List V} {ds : List D} {ios : List Addr} {N : List Str} (gs : GSub G H) (A : Args K H G ios ms vs ds ios) (nd : ios.Nodup) (hn : ms.length ≤ N.length) :
    EnvOk ⟨K, H, G, ios⟩ (startL ms N.length ds) (start N vs) H G := by
  have hl := initL_length ms ds 0 A.len2
  have lk : ∀ (i : Nat) s, (startL ms N.length ds)[i]? = some s → s ≠ .un → (initL ms ds 0)[i]? = some s ∧ i < ms.length := fun i s h n => by
    unfold startL at h
    by_cases c : i < (initL ms ds 0).length
    · rw [List.getElem?_append_left c] at h; exact ⟨h, by omega⟩
    · rw [List.getElem?_append_right (by omega)] at h
      obtain ⟨_, e⟩ := List.getElem?_eq_some_iff.mp h
      simp at e
      exact absurd e.symm n
  have vk : ∀ (i : Nat) v, vs[i]? = some v → (start N vs)[i]? = some (some v) := fun i v h => by
    have hi : i < vs.length := (List.getElem?_eq_some_iff.mp h).1
    unfold L2.start
    rw [List.getElem?_append_left (by simpa using hi), List.getElem?_map, h]
    rfl
  have obj : ∀ a, ObjAt (startL ms N.length ds) (start N vs) a → a ∈ ios := fun a ⟨i, m, d, h1, h2⟩ => by
    obtain ⟨k1, k2⟩ := lk i _ h1 (by intro z; cases z)
    obtain ⟨v, e1, e2⟩ := A.initAt i _ k1
    rcases e2 with ⟨_, e, _⟩ | ⟨_, e, _⟩ | ⟨j, x, b, e, e3, rfl, _⟩
    · cases e
    · cases e
    · rw [vk i _ e1] at h2; cases h2
      exact List.mem_of_getElem? e3
  refine ⟨?_, gs, fun _ _ h => h, fun _ _ h => .inl h, fun _ _ h _ => h, fun _ h => h, fun i s h => ?_, fun i j m n d e a h1 h2 h3 h4 => ?_⟩
  · unfold startL L2.start
    have := A.len
    simp [hl]
    omega
  · cases s with
    | un => trivial
    | val d =>
      obtain ⟨k1, _⟩ := lk i _ h (by intro z; cases z)
      obtain ⟨v, e1, e2⟩ := A.initAt i _ k1
      rcases e2 with ⟨_, e, r⟩ | ⟨_, e, _⟩ | ⟨j, x, b, e, _⟩ <;> cases e
      exact ⟨v, vk i v e1, r⟩
    | bor d =>
      obtain ⟨k1, _⟩ := lk i _ h (by intro z; cases z)
      obtain ⟨v, e1, e2⟩ := A.initAt i _ k1
      rcases e2 with ⟨_, e, r⟩ | ⟨_, e, r⟩ | ⟨j, x, b, e, _⟩ <;> cases e
      refine ⟨v, vk i v e1, ?_⟩
      rcases r with r | ⟨a, o, q1, q2, q3, q4⟩
      · exact .inl r
      · exact .inr ⟨a, o, q1, q2, q3, fun z => q4 (obj a z), some_ne q2⟩
    | par d =>
      obtain ⟨k1, _⟩ := lk i _ h (by intro z; cases z)
      obtain ⟨v, e1, e2⟩ := A.initAt i _ k1
      rcases e2 with ⟨_, e, r⟩ | ⟨_, e, _⟩ | ⟨j, x, b, e, _⟩ <;> cases e
    | nst fs d =>
      obtain ⟨k1, _⟩ := lk i _ h (by intro z; cases z)
      obtain ⟨v, e1, e2⟩ := A.initAt i _ k1
      rcases e2 with ⟨_, e, r⟩ | ⟨_, e, _⟩ | ⟨j, x, b, e, _⟩ <;> cases e
    | obj m d =>
      obtain ⟨k1, _⟩ := lk i _ h (by intro z; cases z)
      obtain ⟨v, e1, e2⟩ := A.initAt i _ k1
      rcases e2 with ⟨_, e, r⟩ | ⟨_, e, r⟩ | ⟨j, x, b, e, e3, rfl, o, q1, q2, q3⟩
      · cases e
      · cases e
      · cases e
        refine ⟨b, o, vk i _ e1, q1, q2, q3, ?_⟩
        show ios[0 + j]? = some b
        rw [Nat.zero_add]; exact e3
  · obtain ⟨k1, _⟩ := lk i _ h1 (by intro z; cases z)
    obtain ⟨k2, _⟩ := lk j _ h2 (by intro z; cases z)
    obtain ⟨v1, a1, a2⟩ := A.initAt i _ k1
    obtain ⟨v2, b1, b2⟩ := A.initAt j _ k2
    rcases a2 with ⟨_, q, _⟩ | ⟨_, q, _⟩ | ⟨j1, x1, c1, q1, q2, rfl, _⟩
    · cases q
    · cases q
    rcases b2 with ⟨_, q, _⟩ | ⟨_, q, _⟩ | ⟨j2, x2, c2, p1, p2, rfl, _⟩
    · cases q
    · cases q
    rw [vk i _ a1] at h3; cases h3
    rw [vk j _ b1] at h4; cases h4
    cases q1; cases p1
    have ej : j1 = j2 := by
      obtain ⟨l1, w1⟩ := List.getElem?_eq_some_iff.mp q2
      obtain ⟨l2, w2⟩ := List.getElem?_eq_some_iff.mp p2
      exact (List.getElem_inj nd).mp (w1.trans w2.symm)
    subst ej
    exact initL_obj k1 k2 rfl
theorem outs_ok {B : Bs} {L : LS} {σ : St} {H G : Hp} (E0 : EnvOk B L σ H G) : ∀ {ms : List Pm} {i k : Nat} {outs : List D} {ios : List Addr}, outsL L (ioIx ms i k) = some outs → (∀ j a, ios[j]? = some a → B.io[k + j]? = some a) → ios.length = (ioIx ms i k).length → Outs B.K H G ios outs
  | [], i, k, outs, ios, h, hb, hl => by
    cases h
    have e : ios = [] := List.length_eq_zero_iff.mp hl
    subst e
    exact .nil
  | .val :: ms, i, k, outs, ios, h, hb, hl => outs_ok E0 (ms := ms) (i := i + 1) (k := k) h hb hl
  | .bor :: ms, i, k, outs, ios, h, hb, hl => outs_ok E0 (ms := ms) (i := i + 1) (k := k) h hb hl
  | .io :: ms, i, k, outs, ios, h, hb, hl => by
    simp only [ioIx, outsL] at h
    split at h
    · rename_i d ds q1 q2
      cases h
      cases ios with
      | nil => simp [ioIx] at hl
      | cons a ios =>
        refine .cons ?_ (outs_ok E0 (ms := ms) (i := i + 1) (k := k + 1) q2 (fun j b h => by
          have := hb (j + 1) b (by simpa using h)
          rw [← this]; congr 1; omega) (by simpa [ioIx] using hl))
        unfold outAt at q1
        split at q1
        · rename_i k' x hx
          split at q1
          · rename_i ek
            cases q1
            subst ek
            obtain ⟨b, o, e1, e2, e3, e4, e5⟩ := E0.at_ i _ hx
            have e6 : B.io[k']? = some b := e5
            have e7 := hb 0 a rfl
            simp only [Nat.add_zero] at e7
            rw [e6] at e7; cases e7
            exact ⟨o, e2, e3, e4⟩
          · cases q1
        · cases q1
    · cases h
theorem ioIx_length {K : PySem.W.Frag} {H G : Hp} {io : List Addr} : ∀ {ms vs ds ios} {i k : Nat}, Args K H G io ms vs ds ios → ios.length = (ioIx ms i k).length
  | _, _, _, _, i, k, .nil => rfl
  | _, _, _, _, i, k, .val _ q => ioIx_length (i := i + 1) (k := k) q
  | _, _, _, _, i, k, .bor _ q => ioIx_length (i := i + 1) (k := k) q
  | _, _, _, _, i, k, .io _ q => by simp [ioIx, ioIx_length (i := i + 1) (k := k + 1) q]
/-- the body keeps the promise -/
theorem body_ok {K : PySem.W.Frag} {ms : List Pm} {N : List Str} {g : DS} {vs : List V} {H : Hp} {Q : VK} {E : XK} (hn : ms.length ≤ N.length) (h : spD K ms (runF ms N.length g) vs H Q E) : tS K E g { nx := fun _ H' => Q .non H', rt := Q } (start N vs) H := by
  obtain ⟨G, ds, ios, gs, A, nd, P⟩ := h
  refine ⟨⟨K, H, G, ios⟩, startL ms N.length ds, G, rfl, start_ok gs A nd hn, ?_⟩
  have af : ∀ {L σ' H' G' outs}, GSub G G' → EnvOk ⟨K, H, G, ios⟩ L σ' H' G' → outsL L (ioIx ms 0 0) = some outs → After K H G ios outs H' G' := fun {L σ' H' G' outs} s E' ho =>
    ⟨s, E'.sub, E'.new, E'.keep, E'.dom, outs_ok E' ho (fun j a q => by simpa using q) (ioIx_length A)⟩
  unfold runF endL at P
  cases hg : g (startL ms N.length ds) with
  | nx L =>
    rw [hg] at P
    simp only at P
    cases ho : outsL L (ioIx ms 0 0) with
    | none => rw [ho] at P; exact P.elim
    | some outs => rw [ho] at P; exact fun σ' H' G' s E' => P _ H' G' (af s E' ho) (by exact .non)
  | ret r L =>
    rw [hg] at P
    simp only at P
    cases ho : outsL L (ioIx ms 0 0) with
    | none => rw [ho] at P; exact P.elim
    | some outs =>
      cases hr : resL L r with
      | none => rw [ho, hr] at P; exact P.elim
      | some p =>
        rw [ho, hr] at P
        intro v σ' H' G' s E' R'
        refine P v H' G' (af s E' ho) ?_
        cases r with
        | v d => cases hr; exact R'
        | t d =>
          cases hr
          obtain ⟨a, o, e, h1, h2, h3, h4, _⟩ := R'
          exact ⟨a, o, e, h1, h2, h3, h4⟩
        | s i =>
          have R'' : σ'[i]? = some (some v) := R'
          simp only [resL] at hr
          split at hr
          · rename_i d q
            cases hr
            obtain ⟨w, e1, e2⟩ := E'.at_ i _ q
            rw [R''] at e1; cases e1
            exact e2
          · rename_i d q
            cases hr
            obtain ⟨a, o, e1, e2, e3, e4, e5⟩ := E'.at_ i _ q
            rw [R''] at e1; cases e1
            exact ⟨a, o, rfl, e2, e3, e4, e5⟩
          · cases hr
  | exc x L =>
    rw [hg] at P
    simp only at P
    cases ho : outsL L (ioIx ms 0 0) with
    | none => rw [ho] at P; exact P.elim
    | some outs => rw [ho] at P; exact fun C dx σ' H' G' s E' R' => P C dx H' G' (af s E' ho) R'
  | brk L => rw [hg] at P; exact P.elim
  | ct L => rw [hg] at P; exact P.elim
  | stuck => rw [hg] at P; exact P.elim
/-- mirrors that do not raise -/
def noExc (m : Mir) : Mir := fun ds => match m ds with
  | .exc _ _ => .stuck
  | r => r
end DV
end
section
set_option Elab.async false
set_option linter.all false
set_option maxRecDepth 100000
set_option maxHeartbeats 4000000
namespace DV
open PySem PySem.Spec PyProof.Rows L2
/-! ### a call of an own def -/
def dAFCons (f : DE) (g : DA) : DA := fun L => (f L).bind fun r L1 => match fz L1 r with
  | some (d, L1') => (g L1').bind fun rs L2 => .ok (.v d :: rs) L2
  | none => .stuck
/-- the data of the arguments, the slots of those that are changed -/
def argD (L : LS) : List Pm → List R → Option (List D × List Nat)
  | [], [] => some ([], [])
  | .val :: ms, .v d :: rs => match argD L ms rs with
    | some p => some (d :: p.1, p.2)
    | none => none
  | .bor :: ms, r :: rs => match peek L r, argD L ms rs with
    | some d, some p => some (d :: p.1, p.2)
    | _, _ => none
  | .io :: ms, .s i :: rs => match L[i]?, argD L ms rs with
    | some (.obj m d), some p => if (m.wr && !p.2.contains i) = true then some (d :: p.1, i :: p.2) else none
    | _, _ => none
  | _, _ => none
/-- read arguments are not those that are changed -/
def apart (ios : List Nat) : List Pm → List R → Bool
  | .bor :: ms, .s i :: rs => !ios.contains i && apart ios ms rs
  | _ :: ms, _ :: rs => apart ios ms rs
  | _, _ => true
def setIo (L : LS) : List Nat → List D → Option LS
  | [], [] => some L
  | i :: is, d :: ds => match L[i]? with
    | some (.obj m _) => setIo (L.set i (.obj m d)) is ds
    | _ => none
  | _, _ => none
def callR (ms : List Pm) (m : Mir) (rs : List R) (L : LS) : Rs R := match argD L ms rs with
  | some p => if apart p.2 ms rs = true then match m p.1 with
      | .ok fr d outs => match setIo L p.2 outs with
        | some L' => .ok (if fr = true then .t d else .v d) L'
        | none => .stuck
      | .exc e outs => match setIo L p.2 outs with
        | some L' => .exc e L'
        | none => .stuck
      | .stuck => .stuck
    else .stuck
  | none => .stuck
def dFn (ms : List Pm) (m : Mir) (as : DA) : DE := fun L => (as L).bind fun rs L1 => callR ms m rs L1
/-- the addresses in the slots -/
inductive Ats (σ : St) : List Nat → List Addr → Prop
  | nil : Ats σ [] []
  | cons {i a is as} : σ[i]? = some (some (.ref a)) → Ats σ is as → Ats σ (i :: is) (a :: as)
theorem Ats.mem {σ : St} : ∀ {is as a}, Ats σ is as → a ∈ as → ∃ i ∈ is, σ[i]? = some (some (.ref a))
  | _, _, a, .nil, h => by cases h
  | _, _, a, .cons e q, h => by
    rcases List.mem_cons.mp h with rfl | h
    · exact ⟨_, by simp, e⟩
    · obtain ⟨i, h1, h2⟩ := q.mem h
      exact ⟨i, by simp [h1], h2⟩
section
variable {B : Bs} {L : LS} {σ : St} {H G Hs : Hp}
theorem argD_ats (E0 : EnvOk B L σ H G) : ∀ {ms : List Pm} {rs : List R} {ds : List D} {is : List Nat}, argD L ms rs = some (ds, is) →
    (∀ i ∈ is, ∃ m d, m.wr = true ∧ L[i]? = some (.obj m d)) ∧ is.Nodup ∧ ∃ as, Ats σ is as
  | [], [], ds, is, h => by cases h; exact ⟨fun i hi => by simp at hi, by simp, [], .nil⟩
  | .val :: ms, .v d :: rs, ds, is, h => by
    simp only [argD] at h
    split at h
    · rename_i p q
      cases h
      exact argD_ats E0 q
    · cases h
  | .bor :: ms, r :: rs, ds, is, h => by
    simp only [argD] at h
    split at h
    · rename_i d p q1 q
      cases h
      exact argD_ats E0 q
    · cases h
  | .io :: ms, .s i :: rs, ds, is, h => by
    simp only [argD] at h
    split at h
    · rename_i m d p q1 q
      split at h
      · rename_i c
        cases h
        rw [Bool.and_eq_true] at c
        obtain ⟨h1, h2, as, h3⟩ := argD_ats E0 q
        obtain ⟨a, o, e, _⟩ := E0.at_ i _ q1
        refine ⟨fun j hj => ?_, List.nodup_cons.mpr ⟨by simpa using c.2, h2⟩, a :: as, .cons e h3⟩
        rcases List.mem_cons.mp hj with rfl | hj
        · exact ⟨m, d, c.1, q1⟩
        · exact h1 j hj
      · cases h
    · cases h
  | .val :: ms, [], ds, is, h => by simp [argD] at h
  | .bor :: ms, [], ds, is, h => by simp [argD] at h
  | .io :: ms, [], ds, is, h => by simp [argD] at h
  | [], _ :: _, ds, is, h => by simp [argD] at h
  | .val :: ms, .t _ :: rs, ds, is, h => by simp [argD] at h
  | .val :: ms, .s _ :: rs, ds, is, h => by simp [argD] at h
  | .io :: ms, .v _ :: rs, ds, is, h => by simp [argD] at h
  | .io :: ms, .t _ :: rs, ds, is, h => by simp [argD] at h
theorem argD_args (E0 : EnvOk B L σ H G) {tot : List Nat} {io : List Addr} (ho : ∀ i ∈ tot, ∃ m d, L[i]? = some (.obj m d)) (hio : ∀ a ∈ io, ∃ i ∈ tot, σ[i]? = some (some (.ref a))) :
    ∀ {ms : List Pm} {rs : List R} {vs : List V} {ds : List D} {is : List Nat} {as : List Addr}, RRL B.K Hs L σ H G vs rs → argD L ms rs = some (ds, is) → Ats σ is as → apart tot ms rs = true → Args B.K H G io ms vs ds as
  | [], [], [], ds, is, as, _, h, a, _ => by cases h; cases a; exact .nil
  | .val :: ms, .v d :: rs, v :: vs, ds, is, as, ⟨r, rr, _⟩, h, a, c => by
    simp only [argD] at h
    split at h
    · rename_i p q
      cases h
      exact .val r (argD_args E0 ho hio rr q a (by simpa [apart] using c))
    · cases h
  | .bor :: ms, .v d :: rs, v :: vs, ds, is, as, ⟨r, rr, _⟩, h, a, c => by
    simp only [argD, peek] at h
    split at h
    · rename_i d' p q1 q
      cases h; cases q1
      exact .bor (.inl r) (argD_args E0 ho hio rr q a (by simpa [apart] using c))
    · cases h
  | .bor :: ms, .t d :: rs, v :: vs, ds, is, as, ⟨r, rr, _⟩, h, a, c => by
    simp only [argD, peek] at h
    split at h
    · rename_i d' p q1 q
      cases h; cases q1
      obtain ⟨b, o, e, h1, h2, h3, h4, h5⟩ := r
      refine .bor (.inr ⟨b, o, e, h1, h2, fun z => ?_⟩) (argD_args E0 ho hio rr q a (by simpa [apart] using c))
      obtain ⟨i, k1, k2⟩ := hio b z
      obtain ⟨m, x, k3⟩ := ho i k1
      exact h5 ⟨i, m, x, k3, k2⟩
    · cases h
  | .bor :: ms, .s i :: rs, v :: vs, ds, is, as, ⟨r, rr, _⟩, h, a, c => by
    simp only [argD] at h
    split at h
    · rename_i d' p q1 q
      cases h
      simp only [apart, Bool.and_eq_true] at c
      refine .bor ?_ (argD_args E0 ho hio rr q a c.2)
      have r' : σ[i]? = some (some v) := r
      simp only [peek] at q1
      split at q1
      · rename_i d q2; cases q1; obtain ⟨w, e1, e2⟩ := E0.at_ i _ q2; rw [r'] at e1; cases e1; exact .inl e2
      · rename_i d q2; cases q1; obtain ⟨w, e1, e2⟩ := E0.at_ i _ q2; rw [r'] at e1; cases e1
        rcases e2 with e2 | ⟨b, o, e2, e3, e4, e5, _⟩
        · exact .inl e2
        · refine .inr ⟨b, o, e2, e3, e4, fun z => ?_⟩
          obtain ⟨j, k1, k2⟩ := hio b z
          obtain ⟨m, x, k3⟩ := ho j k1
          exact e5 ⟨j, m, x, k3, k2⟩
      · rename_i m d q2; cases q1; obtain ⟨b, o, e1, e2, e3, _⟩ := E0.at_ i _ q2; rw [r'] at e1; cases e1
        refine .inr ⟨b, o, rfl, e2, e3, fun z => ?_⟩
        obtain ⟨j, k1, k2⟩ := hio b z
        obtain ⟨m', x, k3⟩ := ho j k1
        have e := E0.inj _ _ _ _ _ _ _ q2 k3 r' k2
        subst e
        simp [k1] at c
      · cases q1
    · cases h
  | .io :: ms, .s i :: rs, v :: vs, ds, is, as, ⟨r, rr, _⟩, h, a, c => by
    simp only [argD] at h
    split at h
    · rename_i m d p q1 q
      split at h
      · cases h
        cases a with
        | cons e1 a =>
          have r' : σ[i]? = some (some v) := r
          rw [r'] at e1; cases e1
          obtain ⟨b, o, e, h1, h2, h3, _⟩ := E0.at_ i _ q1
          rw [r'] at e; cases e
          exact .io ⟨o, h1, h2, h3⟩ (argD_args E0 ho hio rr q a (by simpa [apart] using c))
      · cases h
    · cases h
  | _ :: _, _ :: _, [], ds, is, as, h, _, _, _ => h.elim
  | [], [], _ :: _, ds, is, as, h, _, _, _ => h.elim
  | .val :: ms, [], _, ds, is, as, _, h, _, _ => by simp [argD] at h
  | .bor :: ms, [], _, ds, is, as, _, h, _, _ => by simp [argD] at h
  | .io :: ms, [], _, ds, is, as, _, h, _, _ => by simp [argD] at h
  | [], _ :: _, _, ds, is, as, _, h, _, _ => by simp [argD] at h
  | .val :: ms, .t _ :: rs, _, ds, is, as, _, h, _, _ => by simp [argD] at h
  | .val :: ms, .s _ :: rs, _, ds, is, as, _, h, _, _ => by simp [argD] at h
  | .io :: ms, .v _ :: rs, _, ds, is, as, _, h, _, _ => by simp [argD] at h
  | .io :: ms, .t _ :: rs, _, ds, is, as, _, h, _, _ => by simp [argD] at h
theorem setIo_get : ∀ {is : List Nat} {ds : List D} {L L' : LS}, setIo L is ds = some L' → is.Nodup → L'.length = L.length ∧ ∀ (i : Nat) s, L'[i]? = some s →
    (i ∉ is ∧ L[i]? = some s) ∨ ∃ (k : Nat) (m : Md) (d e : D), is[k]? = some i ∧ L[i]? = some (.obj m d) ∧ ds[k]? = some e ∧ s = .obj m e
  | [], [], L, L', h, _ => by cases h; exact ⟨rfl, fun i s k => .inl ⟨by simp, k⟩⟩
  | j :: is, d :: ds, L, L', h, nd => by
    simp only [setIo] at h
    split at h
    · rename_i m x q
      obtain ⟨n1, n2⟩ := List.nodup_cons.mp nd
      obtain ⟨h1, h2⟩ := setIo_get h n2
      refine ⟨by rw [h1, List.length_set], fun i s k => ?_⟩
      have hj : j < L.length := (List.getElem?_eq_some_iff.mp q).1
      rcases h2 i s k with ⟨k1, k2⟩ | ⟨t, m', d', e, k1, k2, k3, k4⟩
      · by_cases c : j = i
        · subst c
          rw [List.getElem?_set_self hj] at k2; cases k2
          exact .inr ⟨0, m, x, d, rfl, q, rfl, rfl⟩
        · rw [List.getElem?_set_ne c] at k2
          exact .inl ⟨by simp [k1, Ne.symm c], k2⟩
      · by_cases c : j = i
        · subst c
          exact absurd (List.mem_of_getElem? k1) n1
        · rw [List.getElem?_set_ne c] at k2
          exact .inr ⟨t + 1, m', d', e, by simpa using k1, k2, by simpa using k3, k4⟩
    · cases h
  | [], _ :: _, L, L', h, _ => by cases h
  | _ :: _, [], L, L', h, _ => by cases h
theorem Ats.get : ∀ {is : List Nat} {as : List Addr} {k i : Nat}, Ats σ is as → is[k]? = some i → ∃ a, as[k]? = some a ∧ σ[i]? = some (some (.ref a))
  | _, _, k, i, .nil, h => by simp at h
  | _, _, 0, i, .cons e _, h => by simp at h; subst h; exact ⟨_, rfl, e⟩
  | _, _, k + 1, i, .cons _ q, h => by
    obtain ⟨a, h1, h2⟩ := q.get (k := k) (i := i) (by simpa using h)
    exact ⟨a, by simpa using h1, h2⟩
theorem Outs.get {K : PySem.W.Frag} : ∀ {as : List Addr} {ds : List D} {k : Nat} {a : Addr} {d : D}, Outs K H G as ds → as[k]? = some a → ds[k]? = some d → IoOk K H G a d
  | _, _, k, a, d, .nil, h, _ => by simp at h
  | _, _, 0, a, d, .cons e _, h, h' => by simp at h h'; subst h h'; exact e
  | _, _, k + 1, a, d, .cons _ q, h, h' => q.get (k := k) (by simpa using h) (by simpa using h')
theorem ats_nodup : ∀ {is : List Nat} {as : List Addr}, Ats σ is as → is.Nodup → (∀ i ∈ is, ∃ m d, L[i]? = some (.obj m d)) → (∀ (i j : Nat) (m n : Md) (d e : D) (a : Addr), L[i]? = some (.obj m d) → L[j]? = some (.obj n e) → σ[i]? = some (some (.ref a)) → σ[j]? = some (some (.ref a)) → i = j) → as.Nodup
  | _, _, .nil, _, _, _ => by simp
  | _, _, .cons e q, nd, ho, inj => by
    obtain ⟨n1, n2⟩ := List.nodup_cons.mp nd
    refine List.nodup_cons.mpr ⟨fun z => ?_, ats_nodup q n2 (fun i hi => ho i (by simp [hi])) inj⟩
    obtain ⟨j, h1, h2⟩ := q.mem z
    obtain ⟨m, d, k1⟩ := ho _ List.mem_cons_self
    obtain ⟨m', d', k2⟩ := ho j (by simp [h1])
    have := inj _ _ _ _ _ _ _ k1 k2 e h2
    subst this
    exact n1 h1
/-- the slots behind a call -/
theorem after_ok (E0 : EnvOk B L σ H G) {is : List Nat} {as : List Addr} {outs : List D} {L' : LS} {H' G' : Hp} (ho : ∀ i ∈ is, ∃ m d, m.wr = true ∧ L[i]? = some (.obj m d)) (nd : is.Nodup) (at_ : Ats σ is as)
    (A : After B.K H G as outs H' G') (hs : setIo L is outs = some L') : EnvOk B L' σ H' G' ∧ Stp L σ H G L' H' G' := by
  obtain ⟨hl, hg⟩ := setIo_get hs nd
  have own : ∀ (i : Nat) m d, L'[i]? = some (.obj m d) → ∃ e, L[i]? = some (.obj m e) := fun i m d h => by
    rcases hg i _ h with ⟨_, k⟩ | ⟨k, m', d', e, k1, k2, k3, k4⟩
    · exact ⟨d, k⟩
    · cases k4; exact ⟨d', k2⟩
  have obj : ∀ a, ObjAt L' σ a → ObjAt L σ a := fun a ⟨i, m, d, h1, h2⟩ => let ⟨e, q⟩ := own i m d h1; ⟨i, m, e, q, h2⟩
  have ioObj : ∀ a ∈ as, ObjAt L σ a ∧ WrAt L σ a := fun a h => by
    obtain ⟨i, h1, h2⟩ := at_.mem h
    obtain ⟨m, d, w, h3⟩ := ho i h1
    exact ⟨⟨i, m, d, h3, h2⟩, i, m, d, w, h3, h2⟩
  have gno : ∀ a, H a ≠ none → G a = none → G' a = none := fun a h g => by
    cases q : G' a with
    | none => rfl
    | some u =>
      rcases A.new a u q with k | k
      · rw [g] at k; cases k
      · exact absurd k h
  have ne : ∀ (i : Nat) s a, i ∉ is → L[i]? = some s → (∃ m d, s = .obj m d) → σ[i]? = some (some (.ref a)) → a ∉ as := fun i s a hi h ⟨m, d, e⟩ hσ z => by
    obtain ⟨j, h1, h2⟩ := at_.mem z
    obtain ⟨m', d', _, h3⟩ := ho j h1
    subst e
    have := E0.inj _ _ _ _ _ _ _ h h3 hσ h2
    subst this
    exact hi h1
  refine ⟨⟨by rw [hl]; exact E0.len, A.sub, fun a o h => A.gsub a o (E0.old a o h), fun a o h => ?_, fun a o h n => ?_, fun a h => A.dom a (E0.dom a h), fun i s h => ?_, fun i j m n d e a h1 h2 => ?_⟩, ⟨A.gsub, fun a o h => (A.new a o h).elim .inl fun k => .inr (.inl k), fun a o h n => A.keep a o h fun z => n (ioObj a z).2, A.dom, own⟩⟩
  · rcases A.new a o h with k | k
    · exact E0.new a o k
    · refine .inr ?_
      cases q : B.H0 a with
      | none => rfl
      | some u => exact absurd k (E0.dom a (some_ne q))
  · refine A.keep a o (E0.keep a o h n) fun z => ?_
    obtain ⟨i, h1, h2⟩ := at_.mem z
    obtain ⟨m, d, w, h3⟩ := ho i h1
    obtain ⟨b, u, e1, e2, e3, e4, e5⟩ := E0.at_ i _ h3
    rw [h2] at e1; cases e1
    cases m with
    | own => rw [show B.H0 a = none from e5] at h; cases h
    | io k => exact n (List.mem_of_getElem? (show B.io[k]? = some a from e5))
    | lock => cases w
    | iolock _ => cases w
  · rcases hg i s h with ⟨hi, k⟩ | ⟨k, m, d, e, k1, k2, k3, rfl⟩
    · have q := E0.at_ i s k
      cases s with
      | un => trivial
      | val d => obtain ⟨v, e, r⟩ := q; exact ⟨v, e, r.mono A.gsub⟩
      | bor d =>
        obtain ⟨v, e, r⟩ := q
        refine ⟨v, e, ?_⟩
        rcases r with r | ⟨a, o, q1, q2, q3, q4, q5⟩
        · exact .inl (r.mono A.gsub)
        · exact .inr ⟨a, o, q1, A.keep a o q2 fun z => q4 (ioObj a z).1, q3.mono A.gsub, fun z => q4 (obj a z), q5⟩
      | par d => exact q
      | nst fs d => obtain ⟨v, e, r⟩ := q; exact ⟨v, e, r.mono A.gsub⟩
      | obj m d =>
        obtain ⟨a, o, e, q1, q2, q3, q4⟩ := q
        exact ⟨a, o, e, A.keep a o q1 (ne i _ a hi k ⟨m, d, rfl⟩ e), q2.mono A.gsub, gno a (some_ne q1) q3, q4⟩
    · obtain ⟨a, e1, e2⟩ := at_.get k1
      obtain ⟨o, q1, q2, q3⟩ := A.outs.get e1 k3
      obtain ⟨b, u, p1, p2, p3, p4, p5⟩ := E0.at_ i _ k2
      rw [e2] at p1; cases p1
      exact ⟨a, o, e2, q1, q2, q3, p5⟩
  · obtain ⟨e1, q1⟩ := own _ _ _ h1
    obtain ⟨e2, q2⟩ := own _ _ _ h2
    exact E0.inj _ _ _ _ _ _ _ q1 q2
end
section
variable {X : Cx} {E : XK} {e a b c : Expr} {es : List Expr} {pos : Pos} {f fa fb fc : DE}
theorem da_fcons {g : DA} (ha : DEx X E e f) (hr : DLx X E es g) (hs : starEach (e :: es) X.env = (false, eval e X.env) :: starEach es X.env := by rfl) : DLx X E (e :: es) (dAFCons f g) :=
  PA.imp (pa_cons ha hr hs) fun σ H Q ⟨B, L, G, hK, E0, P⟩ => ⟨B, L, G, hK, E0, PostG.next P .refl fun r1 L1 v1 H1 G1 S1 E1 R1 P1 => by
    split at P1
    · rename_i d L1' h
      obtain ⟨G1', S1', E1', rp⟩ := fz_ok E0 E1 S1 R1 h
      exact ⟨B, L1', G1', hK, E1', PostG.next P1 S1' fun rs L2 vs H2 G2 S2 E2 R2 P2 => P2 _ H2 G2 (S1'.trans S2) E2 ⟨rp.mono S2.gsub, RRL.base S1'.dom R2, fun d hd => by cases hd⟩⟩
    · exact P1.elim⟩
theorem call_ok {ms : List Pm} {m : Mir} {B : Bs} {L L2 : LS} {σ : St} {H G H2 G2 Ha : Hp} {vs : List V} {rs : List R} {Q : VK}
    (P : PostG (relR B.K H σ) B L σ H G (callR ms m rs L2) Q E) (S : Stp L σ H G L2 H2 G2) (E2 : EnvOk B L2 σ H2 G2) (R1 : RRL B.K Ha L2 σ H2 G2 vs rs) : spD B.K ms m vs H2 Q E := by
  unfold callR at P
  split at P
  · rename_i p hp
    obtain ⟨ds, is⟩ := p
    split at P
    · rename_i c
      obtain ⟨ho, nd, as, hat⟩ := argD_ats E2 hp
      have ho' : ∀ i ∈ is, ∃ m d, L2[i]? = some (.obj m d) := fun i hi => let ⟨m, d, _, q⟩ := ho i hi; ⟨m, d, q⟩
      have A := argD_args E2 ho' (fun a ha => hat.mem ha) R1 hp hat c
      refine ⟨G2, ds, as, E2.sub, A, ats_nodup hat nd ho' E2.inj, ?_⟩
      simp only at P
      split at P
      · rename_i fr d outs hm
        try rw [hm]
        split at P
        · rename_i L' hs
          intro v H' G' Af Rs
          obtain ⟨E', S'⟩ := after_ok E2 ho nd hat Af hs
          refine P v H' G' (S.trans S') E' ?_
          cases fr with
          | false => exact Rs
          | true =>
            obtain ⟨a, o, e, h1, h2, h3, h4⟩ := Rs
            refine ⟨a, o, e, h1, h2, h3, ?_, fun z => ?_⟩
            · cases q : H a with
              | none => rfl
              | some u => exact absurd h4 (S.dom a (some_ne q))
            · obtain ⟨i, m, x, k1, k2⟩ := S'.objs z
              obtain ⟨b, u, q1, q2, _⟩ := E2.at_ i _ k1
              rw [k2] at q1; cases q1
              rw [h4] at q2; cases q2
        · exact P.elim
      · rename_i x outs hm
        try rw [hm]
        split at P
        · rename_i L' hs
          intro C dx H' G' Af Rs
          obtain ⟨E', S'⟩ := after_ok E2 ho nd hat Af hs
          exact P C dx H' G' (S.trans S') E' Rs
        · exact P.elim
      · exact P.elim
    · exact P.elim
  · exact P.elim
theorem de_call {CX : CXT} {k : Nat} {ff : Addr} {fd : FuncData} {ps : List Str} {ms : List Pm} {m : Mir} {x : Str} {p : Pos} {as : DA} (F : FnOk X.prog X.w X.K X.mg X.base CX k ff fd ps (spD X.K ms m)) (hr : Room k X.A) (hg : Gl X x) (hm : X.mg x = some (.ref ff)) (hk : PySem.W.keepIn X.K (.ref ff) = true) (hb : Binds X.K fd ps [])
    (hx : Passes CX X E) (ha : DLx X E (e :: es) as) (hdb : (x == ("__debug__" : Str)) = false := by decide) (he : starEach (e :: es) X.env = (false, eval e X.env) :: starEach es X.env := by rfl) (hpl : (backTo pos (starEach es X.env)).any (·.1) = false := by rfl) :
    DEx X E (.Call (.Name x p) (e :: es) [] pos) (dFn ms m as) := PE.imp (pe_call F hr hg hm hk hb .nil hx ha hdb he hpl) fun σ H Q ⟨B, L, G, hK, E0, P⟩ =>
  ⟨B, L, G, hK, E0, PostG.next P .refl fun rs L1 vs H1 G1 S1 E1 R1 P1 => by
    rw [List.append_nil, ← hK]
    exact call_ok P1 S1 E1 R1⟩
/-- a def at level 0 promises nothing -/
theorem FnOk.none {P : Program} {w : World} {K : PySem.W.Frag} {mg : Str → Option Value} {base : Heap} {CX : CXT} {k : Nat} {f : Addr} {fd : FuncData} {ps : List Str} {ms : List Pm} : FnOk P w K mg base CX k f fd ps (spD K ms fun _ => .stuck) :=
  ⟨fun vs H Q E h => by obtain ⟨_, _, _, _, _, _, h⟩ := h; exact h.elim, fun A outer s H args us vs Q E hr he hb hv h => by obtain ⟨_, _, _, _, _, _, h⟩ := h; exact h.elim⟩
end
end DV
end
section
set_option Elab.async false
set_option linter.all false
set_option maxRecDepth 100000
set_option maxHeartbeats 4000000
namespace DV
open PySem PySem.Spec PyProof.Rows L2
/-! ### slices with a step, of lists -/
def pickG {α : Type} (xs : List α) (lo hi st : Option Int) : List α :=
  (PySem.sliceRange (PySem.sliceBounds lo hi st xs.length).1 (PySem.sliceBounds lo hi st xs.length).2.1 (PySem.sliceBounds lo hi st xs.length).2.2).filterMap fun (i : Nat) => xs[i]?
def gSl3 (d : D) (lo hi st : Option Int) : Option R := match d with
  | .lst xs => if decide (st ≠ some 0) = true then some (.t (.lst (pickG xs lo hi st))) else none
  | _ => none
def dSl3 (fa : DE) (fl fh fs : LS → Rs (Option Int)) : DE := fun L => (fa L).bind fun r L1 => (fl L1).bind fun lo L2 => (fh L2).bind fun hi L3 => (fs L3).bind fun st L4 => match peek L4 r with
  | some d => match gSl3 d lo hi st with
    | some res => .ok res L4
    | none => .stuck
  | none => .stuck
section
variable {X : Cx} {E : XK} {e a b c tg : Expr} {es : List Expr} {pos : Pos} {f fa fb fc : DE}
/-! ### list(range(..)) -/
def rgE (a b : Int) : List D := (List.range (b - a).toNat).map fun i => D.int (a + (i : Nat))
def rgEok (a b : Int) : Bool := rgOk a && rgOk b && decide ((b - a).toNat ≤ 1000000)
def dLRg1 (fa : DE) : DE := fun L => (fa L).bind fun r L1 => match peek L1 r with
  | some (.int b) => if rgEok 0 b = true then .ok (.t (.lst (rgE 0 b))) L1 else .stuck
  | _ => .stuck
def dLRg2 (fa fb : DE) : DE := fun L => (fa L).bind fun r L1 => (fb L1).bind fun r2 L2 => match peek L2 r, peek L2 r2 with
  | some (.int a), some (.int b) => if rgEok a b = true then .ok (.t (.lst (rgE a b))) L2 else .stuck
  | _, _ => .stuck
/-! ### stores -/
def gStore (d : D) (i : D) (y : D) : Option D := match d, i with
  | .lst xs, .int k => (ixN xs.length k).map fun j => .lst (xs.set j y)
  | _, _ => none
/-- x[i] = e: the value, the object, the index -/
def dStore (fe fo fi : DE) : DS := fun L => (fe L).fl fun r L1 => match fz L1 r with
  | some (y, L2) => (fo L2).fl fun ro L3 => (fi L3).fl fun ri L4 => match ro, peek L4 ri with
    | .s j, some i => match L4[j]? with
      | some (.obj m d) => if m.wr = true then match gStore d i y with
        | some d' => .nx (L4.set j (.obj m d'))
        | none => .stuck
        else .stuck
      | _ => .stuck
    | _, _ => .stuck
  | none => .stuck
theorem ds_store {o i : Expr} {fe fo fi : DE} {p2 : Pos} (he : DEx X E e fe) (ho : DEx X E o fo) (hi : DEx X E i fi)
    (ha : ∀ v, assign (.Subscript o i p2) X.env v = (do
      let ov ← holding [v] (eval o X.env)
      let iv ← holding [v, ov] (eval i X.env)
      standAt p2
      holding [v, ov, iv] (setItem ov iv v)
      release [v, ov, iv] []) := by intro _; rfl)
    (hs : swapsWithSole [.Subscript o i p2] e pos.line X.env = pure false := by rfl) (hw : swappedStores [.Subscript o i p2] e X.env = pure none := by rfl)
    (h1 : (assignEach [.Subscript o i p2] X.env).map (·.2) = [assign (.Subscript o i p2) X.env] := by rfl) : DSx X E (.Assign [.Subscript o i p2] e pos) (dStore fe fo fi) :=
  PS.imp (ps_asg he (pg_sub ho hi set_list ha) hs hw h1) fun D σ H ⟨B, L, G, hK, E0, P⟩ =>
  ⟨B, L, G, hK, E0, PostS.next P fun r1 L1 v1 H1 G1 S1 E1 R1 P1 => by
    split at P1
    · rename_i y L2 h
      obtain ⟨G2, S2, E2, ry, g2⟩ := fz_ok2 E0 E1 S1 R1 h
      refine ⟨B, L2, G2, hK, E2, PostS.next (PostS.mono P1 g2) fun ro L3 v3 H3 G3 S3 E3 R3 P3 => ⟨B, L3, G3, hK, E3, PostS.next P3 fun ri L4 v4 H4 G4 S4 E4 R4 P4 => ?_⟩⟩
      split at P4
      · rename_i j i pi
        split at P4
        · rename_i m d q
          split at P4
          · rename_i hm
            split at P4
            · rename_i d' hg
              have rj : σ[j]? = some (some v3) := R3
              obtain ⟨a, o, e1, e2, e3, e4, e5⟩ := E4.at_ j _ q
              rw [rj] at e1; cases e1
              have q4 := peek_ok E4 R4 pi
              unfold gStore at hg
              split at hg
              · rename_i xs k
                rw [Option.map_eq_some_iff] at hg
                obtain ⟨n, hn, rfl⟩ := hg
                cases e3 with | lst rs =>
                refine ⟨a, _, k, n, rfl, q4.int, e2, by rw [rs.length]; exact hn, ?_⟩
                obtain ⟨E5, S5⟩ := E4.write hm q rj (Ob.lst (Rps.set (ry.mono (GSub.trans S3.gsub S4.gsub)) n rs))
                exact P4 σ _ G4 .refl E5
              · cases hg
            · exact P4.elim
          · exact P4.elim
        · exact P4.elim
      · exact P4.elim
    · exact P1.elim⟩
end
/-! ### defs by name -/
def LkF (K : PySem.W.Frag) (f : Addr) (fd : FuncData) : Prop := ∃ oc od osl, K.lookup f = some ⟨oc, od, .func fd, osl⟩
theorem LkF.uniq {K : PySem.W.Frag} {f : Addr} {fd fd' : FuncData} (h : LkF K f fd) (k : LkF K f fd') : fd = fd' := by
  obtain ⟨a, b, c, h⟩ := h
  obtain ⟨a', b', c', k⟩ := k
  rw [h] at k
  cases k
  rfl
theorem LkF.of {K : PySem.W.Frag} {x q : Str} {ar : Arguments} {bo : List Stmt} {sc : Scope} {dv : List V} {kw : List (Str × V)} {f : Addr} {fd : FuncData} (F : FunD K x q ar bo sc dv kw f fd) : LkF K f fd := by
  obtain ⟨oc, od, dV, kV, doc, pm, an, cdv, ct, osl, rfl, lk, _⟩ := F.ex
  exact ⟨_, _, _, lk⟩
structure Callee (P : Program) (w : World) (K : PySem.W.Frag) (mg : Str → Option Value) (base : Heap) (k : Nat) (x : Str) (ps : List Str) (ms : List Pm) (m : Mir) : Prop where
  g : mg x = some (.ref (He.ga K x))
  ex : ∃ fd, PySem.W.keepIn K (.ref (He.ga K x)) = true ∧ Binds K fd ps [] ∧ FnOk P w K mg base CX0 k (He.ga K x) fd ps (spD K ms m) ∧ LkF K (He.ga K x) fd
/-- how the arguments of a def without defaults bind -/
def BindP (x : Str) (params : Arguments) (body : List Stmt) (scope : Scope) (ps : List Str) : Prop :=
  ∀ (kV doc pm : Value) (an : Option Addr) (cdv ct : Value) (us : List Value), us.length = ps.length → bindArgs (PySem.W.fnOf x x params body scope .none kV doc pm an cdv ct) ⟨us, []⟩ = pure (ps.zip us)
theorem de_fn {X : Cx} {e : Expr} {es : List Expr} {pos p : Pos} {k : Nat} {x : Str} {ps : List Str} {ms : List Pm} {m : Mir} {as : DA} (C : Callee X.prog X.w X.K X.mg X.base k x ps ms m) (hr : Room k X.A) (hg : Gl X x) (ha : DLx X E0 (e :: es) as)
    (hdb : (x == ("__debug__" : Str)) = false := by decide) (he : starEach (e :: es) X.env = (false, eval e X.env) :: starEach es X.env := by rfl) (hpl : (backTo pos (starEach es X.env)).any (·.1) = false := by rfl) : DEx X E0 (.Call (.Name x p) (e :: es) [] pos) (dFn ms m as) := by
  obtain ⟨fd, h1, h2, h3, _⟩ := C.ex
  exact de_call h3 hr hg C.g h1 h2 pass0 ha hdb he hpl
/-! ### op= of ints -/
theorem dss_nop {X : Cx} {E : XK} : DSsx X E [] (fun L => .nx L) := dss_nil
abbrev dNop : DS := fun L => .nx L
end DV
end
section
set_option Elab.async false
set_option linter.all false
set_option maxRecDepth 100000
set_option maxHeartbeats 4000000
/-! more of the builtins: max and min of a list of ints, in, unpacking -/
namespace DV
open PySem PySem.Spec PyProof.Rows L2
variable {K : PySem.W.Frag}
def maxI (n : Int) (ns : List Int) : Int := ns.foldl (fun a b => if b > a then b else a) n
def minI (n : Int) (ns : List Int) : Int := ns.foldl (fun a b => if b < a then b else a) n
def onMM (f : Int → List Int → Int) : Option (List Int) → Option R
  | some (n :: ns) => some (.v (.int (f n ns)))
  | _ => none
def gMaxL : GCall := fun ds => match ds with
  | [.lst xs] => onMM maxI (D.ints xs)
  | _ => none
def gMinL : GCall := fun ds => match ds with
  | [.lst xs] => onMM minI (D.ints xs)
  | _ => none
/-! ### a whole number in a list or tuple of whole numbers -/
def onIn (neg : Bool) (i : Int) : Option (List Int) → Option R
  | some ns => some (.v (.bl (if neg then !decide (i ∈ ns) else decide (i ∈ ns))))
  | none => none
def gInB (neg : Bool) : GOp := fun d e => match d, e with
  | .int i, .lst xs => onIn neg i (D.ints xs)
  | .int i, .tup xs => onIn neg i (D.ints xs)
  | _, _ => none
/-! ### a, b = a tuple's value -/
def onUnp (is : List Nat) : Option (D × LS) → Fl
  | some (d, L2) => match tgSet (.many is) d L2 with
    | some L3 => .nx L3
    | none => .stuck
  | none => .stuck
def dUnp (is : List Nat) (f : DE) : DS := fun L => (f L).fl fun r L1 => onUnp is (fz L1 r)
end DV
end
section
set_option Elab.async false
set_option linter.all false
set_option maxRecDepth 100000
set_option maxHeartbeats 4000000
/-! calls by name -/
namespace DV
open PySem PySem.Spec PyProof.Rows L2
def prm {α : Type} (is : List Nat) (l : List α) : List α := is.filterMap fun i => l[i]?
def dFnK (ms : List Pm) (m : Mir) (is : List Nat) (as : LS → Rs (List D)) : DE := fun L => (as L).bind fun ds L1 => if decide (ds.length = is.length) = true then callR ms m ((prm is ds).map R.v) L1 else .stuck
section
variable {X : Cx} {E : XK} {e : Expr} {kws : List Keyword} {pos kpos : Pos} {nm : Option Str} {f : DE}
theorem PK.imp {t t' : TA} (h : PK X kws t) (k : ∀ σ H Q, t' σ H Q → t σ H Q) : PK X kws t' := ⟨fun pos pins s σ H Q I q => h.run pos pins s σ H Q I (k σ H Q q)⟩
end
end DV
end
section
set_option Elab.async false
set_option linter.all false
set_option maxRecDepth 100000
set_option maxHeartbeats 4000000
/-! how the D-functions go, step by step -/
namespace DV.S0
open PySem PySem.Spec PyProof.Rows L2 DV
/-- a loop's turn, then the rest -/
def _root_.DV.Fl.loop (f : Fl) (k : LS → Fl) : Fl := match f with
  | .nx L => k L
  | .ct L => k L
  | .brk L => .nx L
  | .ret r L => .ret r L
  | .exc e L => .exc e L
  | .stuck => .stuck
theorem loop_nx (L : LS) (k : LS → Fl) : (Fl.nx L).loop k = k L := rfl
theorem loop_ct (L : LS) (k : LS → Fl) : (Fl.ct L).loop k = k L := rfl
theorem loop_brk (L : LS) (k : LS → Fl) : (Fl.brk L).loop k = .nx L := rfl
theorem loop_ret (r : R) (L : LS) (k : LS → Fl) : (Fl.ret r L).loop k = .ret r L := rfl
theorem loop_exc (r : Ex) (L : LS) (k : LS → Fl) : (Fl.exc r L).loop k = .exc r L := rfl
theorem loop_stuck (k : LS → Fl) : Fl.stuck.loop k = .stuck := rfl
/-- an operation's outcome -/
def onG (o : Option R) (L : LS) : Rs R := match o with
  | some r => .ok r L
  | none => .stuck
def onB (o : Option D) (L : LS) : Rs Bool := match o with
  | some (.bl b) => .ok b L
  | _ => .stuck
def onV (o : Option D) (k : Bool → LS → Rs R) (L : LS) : Rs R := match o with
  | some (.bl b) => k b L
  | _ => .stuck
def onI (o : Option D) (L : LS) : Rs (Option Int) := match o with
  | some (.int i) => .ok (some i) L
  | _ => .stuck
def onN (o : Option LS) : Fl := match o with
  | some L => .nx L
  | none => .stuck
theorem s_onG (r : R) (L : LS) : onG (some r) L = .ok r L := rfl
theorem s_onG0 (L : LS) : onG none L = .stuck := rfl
theorem s_onB (b : Bool) (L : LS) : onB (some (.bl b)) L = .ok b L := rfl
theorem s_onI (i : Int) (L : LS) : onI (some (.int i)) L = .ok (some i) L := rfl
theorem s_onN (L : LS) : onN (some L) = .nx L := rfl
/-! reading -/
def pkS : Option Sl → Option D
  | some (.val d) => some d
  | some (.bor d) => some d
  | some (.obj _ d) => some d
  | _ => none
theorem s_pkv (L : LS) (d : D) : peek L (.v d) = some d := rfl
theorem s_pkt (L : LS) (d : D) : peek L (.t d) = some d := rfl
theorem s_pks (L : LS) (i : Nat) : peek L (.s i) = pkS L[i]? := by
  cases h : L[i]? with
  | none => simp only [peek, h]; rfl
  | some s => simp only [peek, h]; cases s <;> first | rfl | (rename_i m d; cases m <;> rfl)
theorem s_pkS1 (d : D) : pkS (some (.val d)) = some d := rfl
theorem s_pkS2 (d : D) : pkS (some (.bor d)) = some d := rfl
theorem s_pkS3 (m : Md) (d : D) : pkS (some (.obj m d)) = some d := rfl
def vrS (i : Nat) (L : LS) : Option Sl → Rs R
  | some (.val d) => .ok (.v d) L
  | some (.bor _) => .ok (.s i) L
  | some (.par d) => .ok (.v d) L
  | some (.nst _ ds) => .ok (.v (.lst ds)) L
  | some (.obj _ _) => .ok (.s i) L
  | _ => .stuck
theorem s_var (i : Nat) (L : LS) : dVar i L = vrS i L L[i]? := by
  unfold dVar vrS
  split <;> first | (simp_all; done) | (simp_all; rfl) | rfl
theorem s_vr1 (i : Nat) (L : LS) (d : D) : vrS i L (some (.val d)) = .ok (.v d) L := rfl
theorem s_vr2 (i : Nat) (L : LS) (d : D) : vrS i L (some (.bor d)) = .ok (.s i) L := rfl
theorem s_vr4 (i : Nat) (L : LS) (d : D) : vrS i L (some (.par d)) = .ok (.v d) L := rfl
theorem s_vr5 (i : Nat) (L : LS) (fs : List Bool) (ds : List D) : vrS i L (some (.nst fs ds)) = .ok (.v (.lst ds)) L := rfl
theorem s_vr3 (i : Nat) (L : LS) (m : Md) (d : D) : vrS i L (some (.obj m d)) = .ok (.s i) L := rfl
theorem s_C (d : D) (L : LS) : dC d L = .ok (.v d) L := rfl
def onO (g : GOp) : Option D → Option D → LS → Rs R
  | some d, some e, L => onG (g d e) L
  | _, _, _ => .stuck
theorem s_op (g : GOp) (fa fb : DE) (L : LS) : dOp g fa fb L = (fa L).bind fun r1 L1 => (fb L1).bind fun r2 L2 => onO g (peek L2 r1) (peek L2 r2) L2 := by
  unfold dOp
  cases fa L with
  | ok r1 L1 =>
    simp only [Rs.bind_ok]
    cases fb L1 with
    | ok r2 L2 =>
      simp only [Rs.bind_ok]
      unfold on2 onO
      split <;> first | (simp_all [onG]; done) | (simp_all [onG]; rfl)
    | exc e L => rfl
    | stuck => rfl
  | exc e L => rfl
  | stuck => rfl
theorem s_on (g : GOp) (d e : D) (L : LS) : onO g (some d) (some e) L = onG (g d e) L := rfl
theorem s_test (f : DE) (L : LS) : dTest f L = (f L).bind fun r L1 => onB (peek L1 r) L1 := by
  unfold dTest
  cases f L with
  | ok r L1 => simp only [Rs.bind_ok]; unfold onB; split <;> first | (simp_all; done) | (simp_all; rfl) | rfl
  | exc e L => rfl
  | stuck => rfl
theorem s_notT (f : DT) (L : LS) : dNotT f L = (f L).bind fun b L1 => .ok (!b) L1 := rfl
theorem s_andT (f g : DT) (L : LS) : dAndT f g L = (f L).bind fun b L1 => if b = true then g L1 else .ok false L1 := rfl
theorem s_orT (f g : DT) (L : LS) : dOrT f g L = (f L).bind fun b L1 => if b = true then .ok true L1 else g L1 := rfl
theorem s_blOf (f : DE) (k : Bool → LS → Rs R) (L : LS) : blOf f k L = (f L).bind fun r L1 => onV (peek L1 r) k L1 := by
  unfold blOf
  cases f L with
  | ok r L1 => simp only [Rs.bind_ok]; unfold onV; split <;> first | (simp_all; done) | (simp_all; rfl) | rfl
  | exc e L => rfl
  | stuck => rfl
theorem s_onV (b : Bool) (k : Bool → LS → Rs R) (L : LS) : onV (some (.bl b)) k L = k b L := rfl
theorem s_andV (f g : DE) (L : LS) : dAndV f g L = (f L).bind fun r L1 => onV (peek L1 r) (fun b L1 => if b = true then g L1 else .ok (.v (.bl false)) L1) L1 := s_blOf ..
theorem s_orV (f g : DE) (L : LS) : dOrV f g L = (f L).bind fun r L1 => onV (peek L1 r) (fun b L1 => if b = true then .ok (.v (.bl true)) L1 else g L1) L1 := s_blOf ..
theorem s_notV (f : DE) (L : LS) : dNotV f L = (f L).bind fun r L1 => onV (peek L1 r) (fun b L1 => .ok (.v (.bl (!b))) L1) L1 := s_blOf ..
theorem s_if (t : DT) (f g : DE) (L : LS) : dIf t f g L = (t L).bind fun b L1 => if b = true then f L1 else g L1 := rfl
def onC (g g' : GOp) (fc : DE) (r2 : R) : Option D → Option D → LS → Rs R
  | some d, some e, L => (onG (g d e) L).bind fun r L => onV (peek L r) (fun k L => if k = true then (fc L).bind fun r3 L3 => onO g' (peek L3 r2) (peek L3 r3) L3 else .ok (.v (.bl false)) L) L
  | _, _, _ => .stuck
theorem s_onC (g g' : GOp) (fc : DE) (r2 : R) (d e : D) (L : LS) : onC g g' fc r2 (some d) (some e) L = (onG (g d e) L).bind fun r L => onV (peek L r) (fun k L => if k = true then (fc L).bind fun r3 L3 => onO g' (peek L3 r2) (peek L3 r3) L3 else .ok (.v (.bl false)) L) L := rfl
theorem on2_onO (g : GOp) (r1 r2 : R) (L : LS) : on2 g r1 r2 L = onO g (peek L r1) (peek L r2) L := by
  unfold on2 onO
  split <;> first | (simp_all [onG]; done) | (simp_all [onG]; rfl)
/-- a chain, where the first comparison's answer is at hand -/
theorem s_chain {g g' : GOp} (hg : ∀ d e r, g d e = some r → ∃ b, r = .v (.bl b)) (fa fb fc : DE) (L : LS) : dChain g g' fa fb fc L = (fa L).bind fun r1 L1 => (fb L1).bind fun r2 L2 => onC g g' fc r2 (peek L2 r1) (peek L2 r2) L2 := by
  unfold dChain
  cases fa L with
  | ok r1 L1 =>
    simp only [Rs.bind_ok]
    cases fb L1 with
    | ok r2 L2 =>
      simp only [Rs.bind_ok]
      cases h1 : peek L2 r1 with
      | none => rfl
      | some d =>
        cases h2 : peek L2 r2 with
        | none => rfl
        | some e =>
          simp only [s_onC]
          cases h3 : g d e with
          | none => rfl
          | some r =>
            obtain ⟨b, rfl⟩ := hg d e r h3
            simp only [s_onG, Rs.bind_ok, s_pkv, s_onV, on2_onO]
    | exc e L => rfl
    | stuck => rfl
  | exc e L => rfl
  | stuck => rfl
theorem bl_II {f : Int → Int → Bool} : ∀ d e r, gII (fun i j => .bl (f i j)) d e = some r → ∃ b, r = .v (.bl b) := by
  intro d e r h
  unfold gII at h
  split at h
  · cases h; exact ⟨_, rfl⟩
  · cases h
theorem s_chLeLt (fa fb fc : DE) (L : LS) : dChain gLe gLt fa fb fc L = (fa L).bind fun r1 L1 => (fb L1).bind fun r2 L2 => onC gLe gLt fc r2 (peek L2 r1) (peek L2 r2) L2 := s_chain bl_II ..
theorem s_chLeLe (fa fb fc : DE) (L : LS) : dChain gLe gLe fa fb fc L = (fa L).bind fun r1 L1 => (fb L1).bind fun r2 L2 => onC gLe gLe fc r2 (peek L2 r1) (peek L2 r2) L2 := s_chain bl_II ..
theorem s_chLtLe (fa fb fc : DE) (L : LS) : dChain gLt gLe fa fb fc L = (fa L).bind fun r1 L1 => (fb L1).bind fun r2 L2 => onC gLt gLe fc r2 (peek L2 r1) (peek L2 r2) L2 := s_chain bl_II ..
def onU (g : D → Option R) : Option D → LS → Rs R
  | some d, L => onG (g d) L
  | _, _ => .stuck
theorem s_un (g : D → Option R) (f : DE) (L : LS) : dUn g f L = (f L).bind fun r L1 => onU g (peek L1 r) L1 := by
  unfold dUn
  cases f L with
  | ok r L1 => simp only [Rs.bind_ok]; unfold onU onG; split <;> first | (simp_all; done) | (simp_all; rfl) | rfl
  | exc e L => rfl
  | stuck => rfl
theorem s_onU (g : D → Option R) (d : D) (L : LS) : onU g (some d) L = onG (g d) L := rfl
theorem s_neg (i : Int) : gNeg (.int i) = some (.v (.int (-i))) := rfl
/-! operators on data -/
theorem s_II (f : Int → Int → D) (i j : Int) : gII f (.int i) (.int j) = some (.v (f i j)) := rfl
theorem s_IC (C : Int → Int → Bool) (f : Int → Int → D) (i j : Int) : gIC C f (.int i) (.int j) = if C i j = true then some (.v (f i j)) else none := rfl
theorem s_addI (i j : Int) : gAdd (.int i) (.int j) = some (.v (.int (i + j))) := rfl
theorem s_addL (xs ys : List D) : gAdd (.lst xs) (.lst ys) = if lenOk (xs.length + ys.length) = true then some (.t (.lst (xs ++ ys))) else none := rfl
theorem s_addT (xs ys : List D) : gAdd (.tup xs) (.tup ys) = if lenOk (xs.length + ys.length) = true then some (.v (.tup (xs ++ ys))) else none := rfl
theorem s_addS (x y : Str) : gAdd (.str x) (.str y) = if lenOk (x.length + y.length) = true then some (.v (.str (x ++ y))) else none := rfl
theorem s_mulI (i j : Int) : gMul (.int i) (.int j) = if mulOk i j = true then some (.v (.int (i * j))) else none := rfl
theorem s_mulL (xs : List D) (j : Int) : gMul (.lst xs) (.int j) = if (lenOk (xs.length * j.toNat) && decide (-1000000 ≤ j) && decide (j ≤ 1000000)) = true then some (.t (.lst (List.replicate j.toNat xs).flatten)) else none := rfl
theorem s_ixL (xs : List D) (i : Int) : gIx (.lst xs) (.int i) = (atI xs i).map .v := rfl
theorem s_ixT (xs : List D) (i : Int) : gIx (.tup xs) (.int i) = (atI xs i).map .v := rfl
theorem s_ixC (xs : List Int) (i : Int) : gIx (.scr xs) (.int i) = (atI xs i).map fun j => .v (.int j) := rfl
/-! lists of arguments -/
theorem s_ANil (L : LS) : dANil L = .ok [] L := rfl
theorem s_ACons (f : DE) (g : DA) (L : LS) : dACons f g L = (f L).bind fun r L1 => (g L1).bind fun rs L2 => .ok (r :: rs) L2 := rfl
theorem s_FNil (L : LS) : dFNil L = .ok [] L := rfl
def onF {α : Type} (o : Option (D × LS)) (k : D → LS → Rs α) : Rs α := match o with
  | some p => k p.1 p.2
  | none => .stuck
theorem s_onF {α : Type} (d : D) (L : LS) (k : D → LS → Rs α) : onF (some (d, L)) k = k d L := rfl
theorem s_FCons (f : DE) (g : LS → Rs (List D)) (L : LS) : dFCons f g L = (f L).bind fun r L1 => onF (fz L1 r) fun d L1' => (g L1').bind fun ds L2 => .ok (d :: ds) L2 := by
  unfold dFCons
  cases f L with
  | ok r L1 => simp only [Rs.bind_ok]; unfold onF; split <;> first | (simp_all; done) | (simp_all; rfl) | rfl
  | exc e L => rfl
  | stuck => rfl
theorem s_AFCons (f : DE) (g : DA) (L : LS) : dAFCons f g L = (f L).bind fun r L1 => onF (fz L1 r) fun d L1' => (g L1').bind fun rs L2 => .ok (.v d :: rs) L2 := by
  unfold dAFCons
  cases f L with
  | ok r L1 => simp only [Rs.bind_ok]; unfold onF; split <;> first | (simp_all; done) | (simp_all; rfl) | rfl
  | exc e L => rfl
  | stuck => rfl
theorem s_fzv (L : LS) (d : D) : fz L (.v d) = some (d, L) := rfl
theorem s_fzt (L : LS) (d : D) : fz L (.t d) = some (d, L) := rfl
def fzS1 (L : LS) (i : Nat) : Option Sl → Option (D × LS)
  | some (.val d) => some (d, L)
  | some (.obj .own d) => some (d, L.set i (.val d))
  | _ => none
theorem s_fzs (L : LS) (i : Nat) : fz L (.s i) = fzS1 L i L[i]? := by
  cases h : L[i]? with
  | none => simp only [fz, h]; rfl
  | some s => simp only [fz, h]; cases s <;> first | rfl | (rename_i m d; cases m <;> rfl)
theorem s_fzS1 (L : LS) (i : Nat) (d : D) : fzS1 L i (some (.val d)) = some (d, L) := rfl
theorem s_fzS2 (L : LS) (i : Nat) (d : D) : fzS1 L i (some (.obj .own d)) = some (d, L.set i (.val d)) := rfl
theorem s_lst (g : LS → Rs (List D)) (L : LS) : dLst g L = (g L).bind fun ds L1 => if lenOk ds.length = true then .ok (.t (.lst ds)) L1 else .stuck := rfl
theorem s_tup (g : LS → Rs (List D)) (L : LS) : dTup g L = (g L).bind fun ds L1 => if lenOk ds.length = true then .ok (.v (.tup ds)) L1 else .stuck := rfl
theorem s_peeks0 (L : LS) : peeks L [] = some [] := rfl
def cons2 : Option D → Option (List D) → Option (List D)
  | some d, some ds => some (d :: ds)
  | _, _ => none
theorem s_cons2 (d : D) (ds : List D) : cons2 (some d) (some ds) = some (d :: ds) := rfl
theorem s_peeks (L : LS) (r : R) (rs : List R) : peeks L (r :: rs) = cons2 (peek L r) (peeks L rs) := by
  simp only [peeks]; unfold cons2; split <;> first | (simp_all; done) | (simp_all; rfl) | rfl
def onLs (g : GCall) : Option (List D) → LS → Rs R
  | some ds, L => onG (g ds) L
  | _, _ => .stuck
theorem s_onLs (g : GCall) (ds : List D) (L : LS) : onLs g (some ds) L = onG (g ds) L := rfl
theorem s_onL (g : GCall) (rs : List R) (L : LS) : onL g rs L = onLs g (peeks L rs) L := by
  unfold onL onLs onG
  split <;> first | (simp_all; done) | (simp_all; rfl) | rfl
theorem s_call (g : GCall) (as : DA) (L : LS) : dCall g as L = (as L).bind fun rs L1 => onLs g (peeks L1 rs) L1 := by
  unfold dCall
  simp only [s_onL]
/-! builtins on data -/
theorem s_lenL (xs : List D) : gLen [.lst xs] = some (.v (.int xs.length)) := rfl
theorem s_lenT (xs : List D) : gLen [.tup xs] = some (.v (.int xs.length)) := rfl
theorem s_lenC (xs : List Int) : gLen [.scr xs] = some (.v (.int xs.length)) := rfl
theorem s_listL (xs : List D) : gList [.lst xs] = some (.t (.lst xs)) := rfl
theorem s_listT (xs : List D) : gList [.tup xs] = some (.t (.lst xs)) := rfl
theorem s_tupleL (xs : List D) : gTuple [.lst xs] = some (.v (.tup xs)) := rfl
theorem s_tupleT (xs : List D) : gTuple [.tup xs] = some (.v (.tup xs)) := rfl
theorem s_intI (i : Int) : gInt [.int i] = some (.v (.int i)) := rfl
theorem s_intB (b : Bool) : gInt [.bl b] = some (.v (.int (if b then 1 else 0))) := rfl
theorem s_abs (i : Int) : gAbs [.int i] = some (.v (.int (if i < 0 then -i else i))) := rfl
theorem s_max2 (i j : Int) : gMax2 [.int i, .int j] = some (.v (.int (if j > i then j else i))) := rfl
theorem s_min2 (i j : Int) : gMin2 [.int i, .int j] = some (.v (.int (if j < i then j else i))) := rfl
theorem s_all (xs : List D) : gAll [.lst xs] = (D.bls xs).map fun bs => .v (.bl (bs.all id)) := rfl
theorem s_any (xs : List D) : gAny [.lst xs] = (D.bls xs).map fun bs => .v (.bl (bs.any id)) := rfl
theorem s_sum (xs : List D) : gSum [.lst xs] = (D.ints xs).map fun bs => .v (.int bs.sum) := rfl
/-! statements -/
theorem s_seq (g h : DS) (L : LS) : dSeq g h L = (g L).seq h := rfl
theorem s_drop (f : DE) (L : LS) : dDrop f L = (f L).fl fun _ L1 => .nx L1 := rfl
theorem s_ret (f : DE) (L : LS) : dRet f L = (f L).fl fun r L1 => .ret r L1 := rfl
theorem s_ifS (t : DT) (g h : DS) (L : LS) : dIfS t g h L = (t L).fl fun b L1 => if b = true then g L1 else h L1 := rfl
theorem s_asg (i : Nat) (f : DE) (L : LS) : dAsg i f L = (f L).fl fun r L1 => onN (asgR i r L1) := by
  unfold dAsg
  cases f L with
  | ok r L1 => simp only [Rs.fl_ok]; unfold onN; split <;> first | (simp_all; done) | (simp_all; rfl) | rfl
  | exc e L => rfl
  | stuck => rfl
theorem s_asgv (i : Nat) (d : D) (L : LS) : asgR i (.v d) L = some (L.set i (.val d)) := rfl
theorem s_asgt (i : Nat) (d : D) (L : LS) : asgR i (.t d) L = some (L.set i (.obj .own d)) := rfl
def asgS (i j : Nat) (L : LS) : Option Sl → Option LS
  | some (.bor d) => some (L.set i (.bor d))
  | some (.val d) => some (L.set i (.val d))
  | some (.obj .own d) => some ((L.set j (.val d)).set i (.val d))
  | _ => none
theorem s_asgs (i j : Nat) (L : LS) : asgR i (.s j) L = asgS i j L L[j]? := by
  unfold asgR asgS
  cases h : L[j]? with
  | none => simp [fz, h]
  | some s =>
    cases s with
    | un => simp [fz, h]
    | val d => simp [fz, h]
    | bor d => simp [fz, h]
    | par d => simp [fz, h]
    | nst fs d => simp [fz, h]
    | obj m d => cases m <;> simp [fz, h]
theorem s_asgS1 (i j : Nat) (L : LS) (d : D) : asgS i j L (some (.bor d)) = some (L.set i (.bor d)) := rfl
theorem s_asgS2 (i j : Nat) (L : LS) (d : D) : asgS i j L (some (.val d)) = some (L.set i (.val d)) := rfl
theorem s_asgS3 (i j : Nat) (L : LS) (d : D) : asgS i j L (some (.obj .own d)) = some ((L.set j (.val d)).set i (.val d)) := rfl
def augS (i : Nat) (g : GOp) (f : DE) (L : LS) : Option Sl → Fl
  | some (.val d) => (f L).fl fun r L1 => (onO g (some d) (peek L1 r) L1).fl fun r L1 => onN (asgR i r L1)
  | _ => .stuck
theorem s_aug (i : Nat) (g : GOp) (f : DE) (L : LS) : dAug i g f L = augS i g f L L[i]? := by
  unfold dAug augS
  cases h : L[i]? with
  | none => rfl
  | some s =>
    cases s with
    | val d =>
      simp only
      cases f L with
      | ok r L1 =>
        simp only [Rs.fl_ok]
        cases h1 : peek L1 r with
        | none => rfl
        | some e =>
          simp only [s_on]
          cases h2 : g d e with
          | none => rfl
          | some res =>
            simp only [s_onG, Rs.fl_ok]
            unfold onN
            split <;> first | (simp_all; done) | (simp_all; rfl) | rfl
      | exc e L => rfl
      | stuck => rfl
    | _ => rfl
theorem s_augS (i : Nat) (g : GOp) (f : DE) (L : LS) (d : D) : augS i g f L (some (.val d)) = (f L).fl fun r L1 => (onO g (some d) (peek L1 r) L1).fl fun r L1 => onN (asgR i r L1) := rfl
def onT (is : List Nat) (o : Option (List R × LS)) : Fl := match o with
  | some p => onN (setMany is p.1 p.2)
  | none => .stuck
theorem s_onT (is : List Nat) (rs : List R) (L : LS) : onT is (some (rs, L)) = onN (setMany is rs L) := rfl
theorem s_tupAsg (is : List Nat) (as : DA) (L : LS) : dTupAsg is as L = (as L).fl fun rs L1 => onT is (fzS rs L1) := by
  unfold dTupAsg
  cases as L with
  | ok r L1 =>
    simp only [Rs.fl_ok]
    unfold onT
    cases fzS r L1 with
    | none => rfl
    | some p => simp only; unfold onN; split <;> first | (simp_all; done) | (simp_all; rfl) | rfl
  | exc e L => rfl
  | stuck => rfl
theorem s_fzS0 (L : LS) : fzS [] L = some ([], L) := rfl
theorem s_fzSv (d : D) (rs : List R) (L : LS) : fzS (.v d :: rs) L = (fzS rs L).map fun p => (.v d :: p.1, p.2) := rfl
theorem s_fzSt (d : D) (rs : List R) (L : LS) : fzS (.t d :: rs) L = (fzS rs L).map fun p => (.t d :: p.1, p.2) := rfl
def fzSk (rs : List R) : Option (D × LS) → Option (List R × LS)
  | some p => (fzS rs p.2).map fun q => (.v p.1 :: q.1, q.2)
  | none => none
theorem s_fzSs (i : Nat) (rs : List R) (L : LS) : fzS (.s i :: rs) L = fzSk rs (fz L (.s i)) := by
  simp only [fzS]; unfold fzSk; split <;> first | (simp_all; done) | (simp_all; rfl) | rfl
theorem s_fzSk (rs : List R) (d : D) (L : LS) : fzSk rs (some (d, L)) = (fzS rs L).map fun q => (.v d :: q.1, q.2) := rfl
theorem s_many0 (L : LS) : setMany [] [] L = some L := rfl
theorem s_manyv (i : Nat) (is : List Nat) (d : D) (rs : List R) (L : LS) : setMany (i :: is) (.v d :: rs) L = setMany is rs (L.set i (.val d)) := rfl
theorem s_manyt (i : Nat) (is : List Nat) (d : D) (rs : List R) (L : LS) : setMany (i :: is) (.t d :: rs) L = setMany is rs (L.set i (.obj .own d)) := rfl
/-! loops -/
theorem s_for (t : Tg) (fi : LS → Rs (List D)) (g : DS) (L : LS) : dFor t fi g L = (fi L).fl fun ds L1 => forL t g ds L1 := rfl
theorem forL_nil (t : Tg) (g : DS) (L : LS) : forL t g [] L = .nx L := rfl
theorem forL_cons {t : Tg} {g : DS} {d : D} {ds : List D} {L L1 : LS} (h : tgSet t d L = some L1) : forL t g (d :: ds) L = (g L1).loop (forL t g ds) := by
  simp only [forL, h]
  cases g L1 <;> rfl
theorem s_tg1 (i : Nat) (d : D) (L : LS) : tgSet (.one i) d L = some (L.set i (.val d)) := rfl
theorem s_tgm (is : List Nat) (ds : List D) (L : LS) : tgSet (.many is) (.tup ds) L = setVals is ds L := rfl
theorem s_vals0 (L : LS) : setVals [] [] L = some L := rfl
theorem s_vals (i : Nat) (is : List Nat) (d : D) (ds : List D) (L : LS) : setVals (i :: is) (d :: ds) L = setVals is ds (L.set i (.val d)) := rfl
theorem whL_succ (c : DT) (g : DS) (n : Nat) (L : LS) : whL c g (n + 1) L = (c L).fl fun b L1 => if b = true then (g L1).loop (whL c g n) else .nx L1 := by
  simp only [whL]
  cases c L with
  | ok b L1 =>
    cases b with
    | true => simp only [Rs.fl_ok, if_true]; cases g L1 <;> rfl
    | false => rfl
  | exc e L => rfl
  | stuck => rfl
def onIt (d : D) (L : LS) : Rs (List D) := match items d with
  | some ds => .ok ds L
  | none => .stuck
theorem s_iseq (f : DE) (L : LS) : dISeq f L = (f L).bind fun r L1 => onF (fz L1 r) onIt := by
  unfold dISeq
  cases f L with
  | ok r L1 =>
    simp only [Rs.bind_ok]
    cases fz L1 r with
    | none => rfl
    | some p => rfl
  | exc e L => rfl
  | stuck => rfl
theorem s_itL (xs : List D) (L : LS) : onIt (.lst xs) L = .ok xs L := rfl
theorem s_itT (xs : List D) (L : LS) : onIt (.tup xs) L = .ok xs L := rfl
def onRs (on : List D → Option (List D)) : Option (List D) → LS → Rs (List D)
  | some ds, L => match on ds with
    | some xs => .ok xs L
    | none => .stuck
  | none, _ => .stuck
theorem s_irg (on : List D → Option (List D)) (as : DA) (L : LS) : dIRg on as L = (as L).bind fun rs L1 => onRs on (peeks L1 rs) L1 := by
  unfold dIRg
  cases as L with
  | ok r L1 => simp only [Rs.bind_ok]; unfold onRs; split <;> first | (simp_all; done) | (simp_all; rfl) | rfl
  | exc e L => rfl
  | stuck => rfl
theorem s_rs1 (j : Int) (L : LS) : onRs onRg1 (some [.int j]) L = if rgOk j = true then .ok (rgD 0 1 j.toNat) L else .stuck := by
  simp only [onRs, onRg1]; split <;> simp_all
theorem s_rs2 (i j : Int) (L : LS) : onRs onRg2 (some [.int i, .int j]) L = if (rgOk i && rgOk j) = true then .ok (rgD i 1 (j - i).toNat) L else .stuck := by
  simp only [onRs, onRg2]; split <;> simp_all
def onZ (ds : List D) (L : LS) : Rs (List D) := match ds with
  | [.lst xs, .lst ys] => .ok (zipD xs ys) L
  | [.tup xs, .tup ys] => .ok (zipD xs ys) L
  | _ => .stuck
theorem s_izip (as : LS → Rs (List D)) (L : LS) : dIZip as L = (as L).bind fun ds L1 => onZ ds L1 := rfl
theorem s_onZL (xs ys : List D) (L : LS) : onZ [.lst xs, .lst ys] L = .ok (zipD xs ys) L := rfl
theorem s_onZT (xs ys : List D) (L : LS) : onZ [.tup xs, .tup ys] L = .ok (zipD xs ys) L := rfl
theorem s_lc (vs : List Nat) (t : Tg) (fi : LS → Rs (List D)) (c : DT) (e : DE) (L : LS) : dLC vs t fi c e L = (fi L).bind fun ds L1 => (lcL vs t c e ds [] (wipeL L1 vs)).bind fun acc L2 => .ok (.t (.lst acc)) L2 := rfl
theorem lcL_nil (vs : List Nat) (t : Tg) (c : DT) (e : DE) (acc : List D) (L : LS) : lcL vs t c e [] acc L = .ok acc L := rfl
theorem lcL_cons {vs : List Nat} {t : Tg} {c : DT} {e : DE} {d : D} {ds acc : List D} {L L1 : LS} (h : tgSet t d L = some L1) : lcL vs t c e (d :: ds) acc L =
    ((c L1).wp vs).bind fun b L2 => if b = true then ((e L2).wp vs).bind fun r L3 => onF (fz L3 r) fun y L4 => if lenOk acc.length = true then lcL vs t c e ds (acc ++ [y]) (wipeL L4 vs) else .stuck else lcL vs t c e ds acc (wipeL L2 vs) := by
  simp only [lcL, h]
  cases (c L1).wp vs with
  | ok b L2 =>
    simp only [Rs.bind_ok]
    cases b with
    | true =>
      simp only [if_true]
      cases (e L2).wp vs with
      | ok r L3 => simp only [Rs.bind_ok]; unfold onF; split <;> first | (simp_all; done) | (simp_all; rfl) | rfl
      | exc e L => rfl
      | stuck => rfl
    | false => rfl
  | exc e L => rfl
  | stuck => rfl
theorem s_yes (L : LS) : dYes L = .ok true L := rfl
/-! calls of own defs -/
def outR (L : LS) (is : List Nat) (o : Ro) : Rs R := match o with
  | .ok fr d outs => match setIo L is outs with
    | some L' => .ok (if fr = true then .t d else .v d) L'
    | none => .stuck
  | .exc e outs => match setIo L is outs with
    | some L' => .exc e L'
    | none => .stuck
  | .stuck => .stuck
def onA (ms : List Pm) (m : Mir) (rs : List R) (L : LS) : Option (List D × List Nat) → Rs R
  | some p => if apart p.2 ms rs = true then outR L p.2 (m p.1) else .stuck
  | none => .stuck
theorem s_fn (ms : List Pm) (m : Mir) (as : DA) (L : LS) : dFn ms m as L = (as L).bind fun rs L1 => onA ms m rs L1 (argD L1 ms rs) := by
  unfold dFn
  cases as L with
  | ok rs L1 => simp only [Rs.bind_ok]; unfold callR onA outR; split <;> first | (simp_all; done) | (simp_all; rfl) | rfl
  | exc e L => rfl
  | stuck => rfl
theorem s_onA (ms : List Pm) (m : Mir) (rs : List R) (L : LS) (ds : List D) (is : List Nat) : onA ms m rs L (some (ds, is)) = if apart is ms rs = true then outR L is (m ds) else .stuck := rfl
theorem s_arg0 (L : LS) : argD L [] [] = some ([], []) := rfl
def argV (d : D) : Option (List D × List Nat) → Option (List D × List Nat)
  | some p => some (d :: p.1, p.2)
  | none => none
theorem s_argV (d : D) (ds : List D) (is : List Nat) : argV d (some (ds, is)) = some (d :: ds, is) := rfl
theorem s_argv (L : LS) (ms : List Pm) (d : D) (rs : List R) : argD L (.val :: ms) (.v d :: rs) = argV d (argD L ms rs) := by
  simp only [argD]; unfold argV; split <;> first | (simp_all; done) | (simp_all; rfl) | rfl
def argB : Option D → Option (List D × List Nat) → Option (List D × List Nat)
  | some d, some p => some (d :: p.1, p.2)
  | _, _ => none
theorem s_argB (d : D) (ds : List D) (is : List Nat) : argB (some d) (some (ds, is)) = some (d :: ds, is) := rfl
theorem s_argb (L : LS) (ms : List Pm) (r : R) (rs : List R) : argD L (.bor :: ms) (r :: rs) = argB (peek L r) (argD L ms rs) := by
  simp only [argD]; unfold argB; split <;> first | (simp_all; done) | (simp_all; rfl) | rfl
def argI (i : Nat) : Option Sl → Option (List D × List Nat) → Option (List D × List Nat)
  | some (.obj m d), some p => if (m.wr && !p.2.contains i) = true then some (d :: p.1, i :: p.2) else none
  | _, _ => none
theorem s_argi (L : LS) (ms : List Pm) (i : Nat) (rs : List R) : argD L (.io :: ms) (.s i :: rs) = argI i L[i]? (argD L ms rs) := by
  simp only [argD]; unfold argI; split <;> first | (simp_all; done) | (simp_all; rfl) | rfl
theorem s_setIo0 (L : LS) : setIo L [] [] = some L := rfl
theorem s_out0 (L : LS) (fr : Bool) (d : D) : outR L [] (.ok fr d []) = .ok (if fr = true then .t d else .v d) L := rfl
def out1 (L : LS) (i : Nat) (fr : Bool) (d o : D) : Option Sl → Rs R
  | some (.obj m _) => .ok (if fr = true then .t d else .v d) (L.set i (.obj m o))
  | _ => .stuck
theorem s_out1 (L : LS) (i : Nat) (fr : Bool) (d o : D) : outR L [i] (.ok fr d [o]) = out1 L i fr d o L[i]? := by
  unfold outR out1
  cases h : L[i]? with
  | none => simp [setIo, h]
  | some s => cases s <;> simp [setIo, h]
theorem s_out1o (L : LS) (i : Nat) (fr : Bool) (d o e : D) (m : Md) : out1 L i fr d o (some (.obj m e)) = .ok (if fr = true then .t d else .v d) (L.set i (.obj m o)) := rfl
/-! methods that change their object -/
def onMu (g : GMut) (i : Nat) (ds : List D) (L : LS) : Option Sl → Rs R
  | some (.obj m d) => if m.wr = true then match g d ds with
    | some (d', res) => .ok (.v res) (L.set i (.obj m d'))
    | none => .stuck
    else .stuck
  | _ => .stuck
def muO (i : Nat) (m : Md) (L : LS) : Option (D × D) → Rs R
  | some p => .ok (.v p.2) (L.set i (.obj m p.1))
  | none => .stuck
theorem s_onMu (g : GMut) (i : Nat) (ds : List D) (L : LS) (m : Md) (d : D) (hw : m.wr = true) : onMu g i ds L (some (.obj m d)) = muO i m L (g d ds) := by
  simp only [onMu, hw, if_true]; unfold muO; split <;> first | (simp_all; done) | (simp_all; rfl) | rfl
theorem s_muO (i : Nat) (m : Md) (L : LS) (d r : D) : muO i m L (some (d, r)) = .ok (.v r) (L.set i (.obj m d)) := rfl
theorem s_onMut (g : GMut) (i : Nat) (ds : List D) (L : LS) : onMut g i ds L = onMu g i ds L L[i]? := by
  unfold onMut onMu
  cases h : L[i]? with
  | none => rfl
  | some s => cases s <;> rfl
def onRc (o : Option Nat) (k : Nat → Rs R) : Rs R := match o with
  | some i => k i
  | none => .stuck
theorem s_onRc (i : Nat) (k : Nat → Rs R) : onRc (some i) k = k i := rfl
theorem s_mut (T : String) (g : GMut) (fo : DE) (as : LS → Rs (List D)) (L : LS) : dMut T g fo as L = (fo L).bind fun r L1 => onRc (recv T r L1) fun i => (as L1).bind fun ds L2 => onMu g i ds L2 L2[i]? := by
  unfold dMut
  cases fo L with
  | ok r L1 =>
    simp only [Rs.bind_ok, s_onMut]
    unfold onRc
    split <;> first | (simp_all; done) | (simp_all; rfl) | rfl
  | exc e L => rfl
  | stuck => rfl
def rcS (T : String) (i : Nat) : Option Sl → Option Nat
  | some (.obj _ d) => if tyOk T d = true then some i else none
  | _ => none
theorem s_rc (T : String) (i : Nat) (L : LS) : recv T (.s i) L = rcS T i L[i]? := by
  cases h : L[i]? with
  | none => simp only [recv, h]; rfl
  | some s => simp only [recv, h]; cases s <;> first | rfl | (rename_i m d; cases m <;> rfl)
theorem s_rcL (i : Nat) (m : Md) (xs : List D) : rcS "list" i (some (.obj m (.lst xs))) = some i := by simp [rcS, tyOk]
theorem s_app (xs : List D) (y : D) : gApp (.lst xs) [y] = if lenOk xs.length = true then some (.lst (xs ++ [y]), .non) else none := rfl
theorem s_ext (xs ys : List D) : gExt (.lst xs) [.lst ys] = if lenOk (xs.length + ys.length) = true then some (.lst (xs ++ ys), .non) else none := rfl
def popO (xs : List D) (i : Nat) : Option D → Option (D × D)
  | some y => some (.lst (xs.eraseIdx i), y)
  | none => none
theorem s_popO (xs : List D) (i : Nat) (y : D) : popO xs i (some y) = some (.lst (xs.eraseIdx i), y) := rfl
theorem s_popAt (xs : List D) (i : Int) : gPopAt (.lst xs) [.int i] = if (decide (0 ≤ i) && lenOk xs.length) = true then popO xs i.toNat xs[i.toNat]? else none := by
  show (if (decide (0 ≤ i) && lenOk xs.length) = true then (match xs[i.toNat]? with
    | some y => some (D.lst (xs.eraseIdx i.toNat), y)
    | none => none) else none) = _
  unfold popO
  split
  · split <;> simp_all
  · rfl
/-! stores -/
def onSt (y : D) (L : LS) (ro : R) (oi : Option D) : Fl := match ro, oi with
  | .s j, some i => match L[j]? with
    | some (.obj m d) => if m.wr = true then match gStore d i y with
      | some d' => .nx (L.set j (.obj m d'))
      | none => .stuck
      else .stuck
    | _ => .stuck
  | _, _ => .stuck
def onFf (o : Option (D × LS)) (k : D → LS → Fl) : Fl := match o with
  | some p => k p.1 p.2
  | none => .stuck
theorem s_onFf (d : D) (L : LS) (k : D → LS → Fl) : onFf (some (d, L)) k = k d L := rfl
theorem s_store (fe fo fi : DE) (L : LS) : dStore fe fo fi L = (fe L).fl fun r L1 => onFf (fz L1 r) fun y L2 => (fo L2).fl fun ro L3 => (fi L3).fl fun ri L4 => onSt y L4 ro (peek L4 ri) := by
  unfold dStore
  cases fe L with
  | ok r L1 =>
    simp only [Rs.fl_ok]
    cases hz : fz L1 r with
    | none => rfl
    | some p =>
      obtain ⟨y, L2⟩ := p
      simp only [s_onFf]
      cases fo L2 with
      | ok ro L3 =>
        simp only [Rs.fl_ok]
        cases fi L3 with
        | ok ri L4 =>
          simp only [Rs.fl_ok]
          unfold onSt
          cases ro <;> cases peek L4 ri <;> first | rfl | (simp only <;> done) | (split <;> first | (simp_all; done) | (simp_all; rfl) | rfl)
        | exc e L => rfl
        | stuck => rfl
      | exc e L => rfl
      | stuck => rfl
  | exc e L => rfl
  | stuck => rfl
def stO (j : Nat) (m : Md) (L : LS) : Option D → Fl
  | some d' => .nx (L.set j (.obj m d'))
  | none => .stuck
def stS (y i : D) (j : Nat) (L : LS) : Option Sl → Fl
  | some (.obj m d) => if m.wr = true then stO j m L (gStore d i y) else .stuck
  | _ => .stuck
theorem s_onSt (y i : D) (j : Nat) (L : LS) : onSt y L (.s j) (some i) = stS y i j L L[j]? := by
  cases h : L[j]? with
  | none => simp only [onSt, h]; rfl
  | some s =>
    simp only [onSt, h]
    cases s with
    | obj m d =>
      simp only [stS]
      split
      · unfold stO; split <;> first | (simp_all; done) | (simp_all; rfl) | rfl
      · rfl
    | _ => rfl
theorem s_stO (j : Nat) (m : Md) (L : LS) (d : D) : stO j m L (some d) = .nx (L.set j (.obj m d)) := rfl
theorem s_gSt (xs : List D) (k : Int) (y : D) : gStore (.lst xs) (.int k) y = (ixN xs.length k).map fun j => .lst (xs.set j y) := rfl
theorem s_stSo (y i : D) (j : Nat) (L : LS) (d : D) : stS y i j L (some (.obj .own d)) = stO j .own L (gStore d i y) := rfl
theorem s_stSi (y i : D) (j k : Nat) (L : LS) (d : D) : stS y i j L (some (.obj (.io k) d)) = stO j (.io k) L (gStore d i y) := rfl
theorem s_onMuo (g : GMut) (i : Nat) (ds : List D) (L : LS) (d : D) : onMu g i ds L (some (.obj .own d)) = muO i .own L (g d ds) := s_onMu g i ds L .own d rfl
theorem s_onMui (g : GMut) (i k : Nat) (ds : List D) (L : LS) (d : D) : onMu g i ds L (some (.obj (.io k) d)) = muO i (.io k) L (g d ds) := s_onMu g i ds L (.io k) d rfl
theorem s_argIo (i : Nat) (d : D) (ds : List D) (is : List Nat) : argI i (some (.obj .own d)) (some (ds, is)) = if is.contains i = true then none else some (d :: ds, i :: is) := by
  simp only [argI, Md.wr]; cases is.contains i <;> rfl
theorem s_argIi (i k : Nat) (d : D) (ds : List D) (is : List Nat) : argI i (some (.obj (.io k) d)) (some (ds, is)) = if is.contains i = true then none else some (d :: ds, i :: is) := by
  simp only [argI, Md.wr]; cases is.contains i <;> rfl
/-! slices -/
theorem s_oNone (L : LS) : dONone L = .ok none L := rfl
theorem s_oSome (f : DE) (L : LS) : dOSome f L = (f L).bind fun r L1 => onI (peek L1 r) L1 := by
  unfold dOSome
  cases f L with
  | ok r L1 => simp only [Rs.bind_ok]; unfold onI; split <;> first | (simp_all; done) | (simp_all; rfl) | rfl
  | exc e L => rfl
  | stuck => rfl
theorem s_sl (fa : DE) (fl fh : LS → Rs (Option Int)) (L : LS) : dSl fa fl fh L = (fa L).bind fun r L1 => (fl L1).bind fun lo L2 => (fh L2).bind fun hi L3 => onU (fun d => gSl d lo hi) (peek L3 r) L3 := by
  unfold dSl
  cases fa L with
  | ok r L1 =>
    simp only [Rs.bind_ok]
    cases fl L1 with
    | ok lo L2 =>
      simp only [Rs.bind_ok]
      cases fh L2 with
      | ok hi L3 => simp only [Rs.bind_ok]; unfold onU onG; split <;> first | (simp_all; done) | (simp_all; rfl) | rfl
      | exc e L => rfl
      | stuck => rfl
    | exc e L => rfl
    | stuck => rfl
  | exc e L => rfl
  | stuck => rfl
theorem s_sl3 (fa : DE) (fl fh fs : LS → Rs (Option Int)) (L : LS) : dSl3 fa fl fh fs L = (fa L).bind fun r L1 => (fl L1).bind fun lo L2 => (fh L2).bind fun hi L3 => (fs L3).bind fun st L4 => onU (fun d => gSl3 d lo hi st) (peek L4 r) L4 := by
  unfold dSl3
  cases fa L with
  | ok r L1 =>
    simp only [Rs.bind_ok]
    cases fl L1 with
    | ok lo L2 =>
      simp only [Rs.bind_ok]
      cases fh L2 with
      | ok hi L3 =>
        simp only [Rs.bind_ok]
        cases fs L3 with
        | ok hi L3 => simp only [Rs.bind_ok]; unfold onU onG; split <;> first | (simp_all; done) | (simp_all; rfl) | rfl
        | exc e L => rfl
        | stuck => rfl
      | exc e L => rfl
      | stuck => rfl
    | exc e L => rfl
    | stuck => rfl
  | exc e L => rfl
  | stuck => rfl
theorem s_slL (xs : List D) (lo hi : Option Int) : gSl (.lst xs) lo hi = some (.t (.lst (cutD xs lo hi))) := rfl
theorem s_slT (xs : List D) (lo hi : Option Int) : gSl (.tup xs) lo hi = some (.v (.tup (cutD xs lo hi))) := rfl
theorem s_sl3L (xs : List D) (lo hi : Option Int) (st : Option Int) : gSl3 (.lst xs) lo hi st = if decide (st ≠ some 0) = true then some (.t (.lst (pickG xs lo hi st))) else none := rfl
/-! list(range) -/
theorem s_lrg1 (f : DE) (L : LS) : dLRg1 f L = (f L).bind fun r L1 => onU (fun d => match d with | .int b => if rgEok 0 b = true then some (.t (.lst (rgE 0 b))) else none | _ => none) (peek L1 r) L1 := by
  unfold dLRg1
  cases f L with
  | ok r L1 =>
    simp only [Rs.bind_ok]
    cases peek L1 r with
    | none => rfl
    | some d => cases d <;> simp [onU, onG]; split <;> rfl
  | exc e L => rfl
  | stuck => rfl
theorem s_lrg2 (f g : DE) (L : LS) : dLRg2 f g L = (f L).bind fun r L1 => (g L1).bind fun r2 L2 => onO (fun d e => match d, e with | .int a, .int b => if rgEok a b = true then some (.t (.lst (rgE a b))) else none | _, _ => none) (peek L2 r) (peek L2 r2) L2 := by
  unfold dLRg2
  cases f L with
  | ok r L1 =>
    simp only [Rs.bind_ok]
    cases g L1 with
    | ok r2 L2 =>
      simp only [Rs.bind_ok]
      cases peek L2 r with
      | none => rfl
      | some d =>
        cases peek L2 r2 with
        | none => cases d <;> rfl
        | some e => cases d <;> cases e <;> simp [onO, onG]; split <;> rfl
    | exc e L => rfl
    | stuck => rfl
  | exc e L => rfl
  | stuck => rfl
/-! a def's end -/
def endO (fr : Bool) (d : D) : Option (List D) → Ro
  | some outs => .ok fr d outs
  | none => .stuck
def endR (o : Option (List D)) : Option (Bool × D) → Ro
  | some p => endO p.1 p.2 o
  | none => .stuck
theorem s_run (ms : List Pm) (n : Nat) (g : DS) (ds : List D) : runF ms n g ds = endL ms (g (startL ms n ds)) := rfl
theorem s_endN (ms : List Pm) (L : LS) : endL ms (.nx L) = endO false .non (outsL L (ioIx ms 0 0)) := by
  unfold endL endO; rfl
theorem s_endR (ms : List Pm) (r : R) (L : LS) : endL ms (.ret r L) = endR (outsL L (ioIx ms 0 0)) (resL L r) := by
  unfold endL endR endO
  simp only
  cases outsL L (ioIx ms 0 0) <;> cases resL L r <;> rfl
theorem s_endRp (o : Option (List D)) (fr : Bool) (d : D) : endR o (some (fr, d)) = endO fr d o := rfl
theorem s_endO (fr : Bool) (d : D) (os : List D) : endO fr d (some os) = .ok fr d os := rfl
def noX : Ro → Ro
  | .exc _ _ => .stuck
  | r => r
theorem s_noExc (f : Mir) (ds : List D) : noExc f ds = noX (f ds) := by
  unfold noExc noX
  split <;> first | (simp_all; done) | (simp_all; rfl) | rfl
theorem s_noX (fr : Bool) (d : D) (os : List D) : noX (.ok fr d os) = .ok fr d os := rfl
theorem s_resv (L : LS) (d : D) : resL L (.v d) = some (false, d) := rfl
theorem s_rest (L : LS) (d : D) : resL L (.t d) = some (true, d) := rfl
def resS : Option Sl → Option (Bool × D)
  | some (.val d) => some (false, d)
  | some (.obj .own d) => some (true, d)
  | _ => none
theorem s_ress (L : LS) (i : Nat) : resL L (.s i) = resS L[i]? := by
  cases h : L[i]? with
  | none => simp only [resL, h]; rfl
  | some s => simp only [resL, h]; cases s <;> first | rfl | (rename_i m d; cases m <;> rfl)
theorem s_resS1 (d : D) : resS (some (.val d)) = some (false, d) := rfl
theorem s_resS2 (d : D) : resS (some (.obj .own d)) = some (true, d) := rfl
theorem s_outs0 (L : LS) : outsL L [] = some [] := rfl
def outC : Option D → Option (List D) → Option (List D)
  | some d, some ds => some (d :: ds)
  | _, _ => none
theorem s_outC (d : D) (ds : List D) : outC (some d) (some ds) = some (d :: ds) := rfl
theorem s_outs (L : LS) (p : Nat × Nat) (ps : List (Nat × Nat)) : outsL L (p :: ps) = outC (outAt L p) (outsL L ps) := by
  simp only [outsL]; unfold outC; split <;> first | (simp_all; done) | (simp_all; rfl) | rfl
def outS (k : Nat) : Option Sl → Option D
  | some (.obj (.io j) d) => if j = k then some d else none
  | _ => none
theorem s_outAt (L : LS) (i k : Nat) : outAt L (i, k) = outS k L[i]? := by
  unfold outAt outS
  cases h : L[i]? with
  | none => rfl
  | some s =>
    cases s with
    | obj m d => cases m <;> rfl
    | _ => rfl
theorem s_outS (k : Nat) (d : D) : outS k (some (.obj (.io k) d)) = some d := by simp [outS]
theorem s_ioIx0 (i k : Nat) : ioIx [] i k = [] := rfl
theorem s_ioIxv (ms : List Pm) (i k : Nat) : ioIx (.val :: ms) i k = ioIx ms (i + 1) k := rfl
theorem s_ioIxb (ms : List Pm) (i k : Nat) : ioIx (.bor :: ms) i k = ioIx ms (i + 1) k := rfl
theorem s_ioIxi (ms : List Pm) (i k : Nat) : ioIx (.io :: ms) i k = (i, k) :: ioIx ms (i + 1) (k + 1) := rfl
theorem s_init0 (k : Nat) : initL [] [] k = [] := rfl
theorem s_initv (ms : List Pm) (d : D) (ds : List D) (k : Nat) : initL (.val :: ms) (d :: ds) k = .val d :: initL ms ds k := rfl
theorem s_initb (ms : List Pm) (d : D) (ds : List D) (k : Nat) : initL (.bor :: ms) (d :: ds) k = .bor d :: initL ms ds k := rfl
theorem s_initi (ms : List Pm) (d : D) (ds : List D) (k : Nat) : initL (.io :: ms) (d :: ds) k = .obj (.io k) d :: initL ms ds (k + 1) := rfl
theorem s_wipe0 (L : LS) : wipeL L [] = L := rfl
theorem s_wipe (L : LS) (v : Nat) (vs : List Nat) : wipeL L (v :: vs) = (wipeL L vs).set v .un := rfl
theorem s_ap0 (is : List Nat) : apart is [] [] = true := rfl
theorem s_apv (is : List Nat) (ms : List Pm) (r : R) (rs : List R) : apart is (.val :: ms) (r :: rs) = apart is ms rs := rfl
theorem s_api (is : List Nat) (ms : List Pm) (r : R) (rs : List R) : apart is (.io :: ms) (r :: rs) = apart is ms rs := rfl
theorem s_apbv (is : List Nat) (ms : List Pm) (d : D) (rs : List R) : apart is (.bor :: ms) (.v d :: rs) = apart is ms rs := rfl
theorem s_apbt (is : List Nat) (ms : List Pm) (d : D) (rs : List R) : apart is (.bor :: ms) (.t d :: rs) = apart is ms rs := rfl
theorem s_apbs (is : List Nat) (ms : List Pm) (i : Nat) (rs : List R) : apart is (.bor :: ms) (.s i :: rs) = (!is.contains i && apart is ms rs) := rfl
end DV.S0
namespace DV
open PySem PySem.Spec PyProof.Rows L2 DV.S0
/-! ### what follows, by name -/
def kOp2 (g : GOp) (r1 r2 : R) (L : LS) : Rs R := onO g (peek L r1) (peek L r2) L
def kOp (g : GOp) (fb : DE) (r1 : R) (L : LS) : Rs R := (fb L).bind (kOp2 g r1)
def kTest (r : R) (L : LS) : Rs Bool := onB (peek L r) L
def kNotT (b : Bool) (L : LS) : Rs Bool := .ok (!b) L
def kAndT (g : DT) (b : Bool) (L : LS) : Rs Bool := if b = true then g L else .ok false L
def kOrT (g : DT) (b : Bool) (L : LS) : Rs Bool := if b = true then .ok true L else g L
def kBl (k : Bool → LS → Rs R) (r : R) (L : LS) : Rs R := onV (peek L r) k L
def kAndV (g : DE) (b : Bool) (L : LS) : Rs R := if b = true then g L else .ok (.v (.bl false)) L
def kOrV (g : DE) (b : Bool) (L : LS) : Rs R := if b = true then .ok (.v (.bl true)) L else g L
def kNotV (b : Bool) (L : LS) : Rs R := .ok (.v (.bl (!b))) L
def kIf (f g : DE) (b : Bool) (L : LS) : Rs R := if b = true then f L else g L
def kCh2 (g' : GOp) (r2 r3 : R) (L : LS) : Rs R := onO g' (peek L r2) (peek L r3) L
def kCh (g' : GOp) (fc : DE) (r2 : R) (b : Bool) (L : LS) : Rs R := if b = true then (fc L).bind (kCh2 g' r2) else .ok (.v (.bl false)) L
def kUn (g : D → Option R) (r : R) (L : LS) : Rs R := onU g (peek L r) L
def kAC2 (r : R) (rs : List R) (L : LS) : Rs (List R) := .ok (r :: rs) L
def kAC (g : DA) (r : R) (L : LS) : Rs (List R) := (g L).bind (kAC2 r)
def kFC3 (d : D) (ds : List D) (L : LS) : Rs (List D) := .ok (d :: ds) L
def kFC2 (g : LS → Rs (List D)) (d : D) (L : LS) : Rs (List D) := (g L).bind (kFC3 d)
def kFC (g : LS → Rs (List D)) (r : R) (L : LS) : Rs (List D) := onF (fz L r) (kFC2 g)
def kAFC3 (d : D) (rs : List R) (L : LS) : Rs (List R) := .ok (.v d :: rs) L
def kAFC2 (g : DA) (d : D) (L : LS) : Rs (List R) := (g L).bind (kAFC3 d)
def kAFC (g : DA) (r : R) (L : LS) : Rs (List R) := onF (fz L r) (kAFC2 g)
def kLst (ds : List D) (L : LS) : Rs R := if lenOk ds.length = true then .ok (.t (.lst ds)) L else .stuck
def kTup (ds : List D) (L : LS) : Rs R := if lenOk ds.length = true then .ok (.v (.tup ds)) L else .stuck
def kCall (g : GCall) (rs : List R) (L : LS) : Rs R := onLs g (peeks L rs) L
def kDrop {α : Type} (_ : α) (L : LS) : Fl := .nx L
def kRet (r : R) (L : LS) : Fl := .ret r L
def kIfS (g h : DS) (b : Bool) (L : LS) : Fl := if b = true then g L else h L
def kAsg (i : Nat) (r : R) (L : LS) : Fl := onN (asgR i r L)
def kAug (i : Nat) (g : GOp) (d : D) (r : R) (L : LS) : Fl := (onO g (some d) (peek L r) L).fl (kAsg i)
def kT (is : List Nat) (rs : List R) (L : LS) : Fl := onT is (fzS rs L)
def kFor (t : Tg) (g : DS) (ds : List D) (L : LS) : Fl := forL t g ds L
def kWh (c : DT) (g : DS) (n : Nat) (b : Bool) (L : LS) : Fl := if b = true then (g L).loop (whL c g n) else .nx L
def kISeq (r : R) (L : LS) : Rs (List D) := onF (fz L r) onIt
def kIRg (on : List D → Option (List D)) (rs : List R) (L : LS) : Rs (List D) := onRs on (peeks L rs) L
def kLC2 (acc : List D) (L : LS) : Rs R := .ok (.t (.lst acc)) L
def kLC (vs : List Nat) (t : Tg) (c : DT) (e : DE) (ds : List D) (L : LS) : Rs R := (lcL vs t c e ds [] (wipeL L vs)).bind kLC2
def kL3 (vs : List Nat) (t : Tg) (c : DT) (e : DE) (ds acc : List D) (y : D) (L : LS) : Rs (List D) := if lenOk acc.length = true then lcL vs t c e ds (acc ++ [y]) (wipeL L vs) else .stuck
def kL2 (vs : List Nat) (t : Tg) (c : DT) (e : DE) (ds acc : List D) (r : R) (L : LS) : Rs (List D) := onF (fz L r) (kL3 vs t c e ds acc)
def kL1 (vs : List Nat) (t : Tg) (c : DT) (e : DE) (ds acc : List D) (b : Bool) (L : LS) : Rs (List D) := if b = true then ((e L).wp vs).bind (kL2 vs t c e ds acc) else lcL vs t c e ds acc (wipeL L vs)
def kFn (ms : List Pm) (m : Mir) (rs : List R) (L : LS) : Rs R := onA ms m rs L (argD L ms rs)
def kMut3 (g : GMut) (i : Nat) (ds : List D) (L : LS) : Rs R := onMu g i ds L L[i]?
def kMut2 (g : GMut) (as : LS → Rs (List D)) (L : LS) (i : Nat) : Rs R := (as L).bind (kMut3 g i)
def kMut (T : String) (g : GMut) (as : LS → Rs (List D)) (r : R) (L : LS) : Rs R := onRc (recv T r L) (kMut2 g as L)
def kSt4 (y : D) (ro ri : R) (L : LS) : Fl := onSt y L ro (peek L ri)
def kSt3 (fi : DE) (y : D) (ro : R) (L : LS) : Fl := (fi L).fl (kSt4 y ro)
def kSt2 (fo fi : DE) (y : D) (L : LS) : Fl := (fo L).fl (kSt3 fi y)
def kSt (fo fi : DE) (r : R) (L : LS) : Fl := onFf (fz L r) (kSt2 fo fi)
def kOS (r : R) (L : LS) : Rs (Option Int) := onI (peek L r) L
def kSl2 (r : R) (lo hi : Option Int) (L : LS) : Rs R := onU (fun d => gSl d lo hi) (peek L r) L
def kSl1 (fh : LS → Rs (Option Int)) (r : R) (lo : Option Int) (L : LS) : Rs R := (fh L).bind (kSl2 r lo)
def kSl (fl fh : LS → Rs (Option Int)) (r : R) (L : LS) : Rs R := (fl L).bind (kSl1 fh r)
def kSl33 (r : R) (lo hi st : Option Int) (L : LS) : Rs R := onU (fun d => gSl3 d lo hi st) (peek L r) L
def kSl32 (fs : LS → Rs (Option Int)) (r : R) (lo hi : Option Int) (L : LS) : Rs R := (fs L).bind (kSl33 r lo hi)
def kSl31 (fh fs : LS → Rs (Option Int)) (r : R) (lo : Option Int) (L : LS) : Rs R := (fh L).bind (kSl32 fs r lo)
def kSl3 (fl fh fs : LS → Rs (Option Int)) (r : R) (L : LS) : Rs R := (fl L).bind (kSl31 fh fs r)
def gLRg1 (d : D) : Option R := match d with | .int b => if rgEok 0 b = true then some (.t (.lst (rgE 0 b))) else none | _ => none
def kLRg1 (r : R) (L : LS) : Rs R := onU gLRg1 (peek L r) L
def gLRg2 : GOp := fun d e => match d, e with | .int a, .int b => if rgEok a b = true then some (.t (.lst (rgE a b))) else none | _, _ => none
def kLRg22 (r r2 : R) (L : LS) : Rs R := onO gLRg2 (peek L r) (peek L r2) L
def kLRg2 (g : DE) (r : R) (L : LS) : Rs R := (g L).bind (kLRg22 r)
def kC2 (g g' : GOp) (fc : DE) (r1 r2 : R) (L : LS) : Rs R := S0.onC g g' fc r2 (peek L r1) (peek L r2) L
def kC (g g' : GOp) (fb fc : DE) (r1 : R) (L : LS) : Rs R := (fb L).bind (kC2 g g' fc r1)
theorem n_s_op (g : GOp) (fa fb : DE) (L : LS) : dOp g fa fb L = (fa L).bind (kOp g fb) := S0.s_op ..
theorem n_s_test (f : DE) (L : LS) : dTest f L = (f L).bind kTest := S0.s_test ..
theorem n_s_notT (f : DT) (L : LS) : dNotT f L = (f L).bind kNotT := S0.s_notT ..
theorem n_s_andT (f g : DT) (L : LS) : dAndT f g L = (f L).bind (kAndT g) := S0.s_andT ..
theorem n_s_orT (f g : DT) (L : LS) : dOrT f g L = (f L).bind (kOrT g) := S0.s_orT ..
theorem n_s_andV (f g : DE) (L : LS) : dAndV f g L = (f L).bind (kBl (kAndV g)) := S0.s_andV ..
theorem n_s_orV (f g : DE) (L : LS) : dOrV f g L = (f L).bind (kBl (kOrV g)) := S0.s_orV ..
theorem n_s_notV (f : DE) (L : LS) : dNotV f L = (f L).bind (kBl kNotV) := S0.s_notV ..
theorem n_s_if (t : DT) (f g : DE) (L : LS) : dIf t f g L = (t L).bind (kIf f g) := S0.s_if ..
theorem n_s_onC (g g' : GOp) (fc : DE) (r2 : R) (d e : D) (L : LS) : onC g g' fc r2 (some d) (some e) L = (onG (g d e) L).bind (kBl (kCh g' fc r2)) := S0.s_onC ..
theorem n_s_chLeLt (fa fb fc : DE) (L : LS) : dChain gLe gLt fa fb fc L = (fa L).bind (kC gLe gLt fb fc) := S0.s_chLeLt ..
theorem n_s_chLeLe (fa fb fc : DE) (L : LS) : dChain gLe gLe fa fb fc L = (fa L).bind (kC gLe gLe fb fc) := S0.s_chLeLe ..
theorem n_s_chLtLe (fa fb fc : DE) (L : LS) : dChain gLt gLe fa fb fc L = (fa L).bind (kC gLt gLe fb fc) := S0.s_chLtLe ..
theorem n_s_un (g : D → Option R) (f : DE) (L : LS) : dUn g f L = (f L).bind (kUn g) := S0.s_un ..
theorem n_s_ACons (f : DE) (g : DA) (L : LS) : dACons f g L = (f L).bind (kAC g) := S0.s_ACons ..
theorem n_s_FCons (f : DE) (g : LS → Rs (List D)) (L : LS) : dFCons f g L = (f L).bind (kFC g) := S0.s_FCons ..
theorem n_s_AFCons (f : DE) (g : DA) (L : LS) : dAFCons f g L = (f L).bind (kAFC g) := S0.s_AFCons ..
theorem n_s_lst (g : LS → Rs (List D)) (L : LS) : dLst g L = (g L).bind kLst := S0.s_lst ..
theorem n_s_tup (g : LS → Rs (List D)) (L : LS) : dTup g L = (g L).bind kTup := S0.s_tup ..
theorem n_s_call (g : GCall) (as : DA) (L : LS) : dCall g as L = (as L).bind (kCall g) := S0.s_call ..
theorem n_s_seq (g h : DS) (L : LS) : dSeq g h L = (g L).seq h := S0.s_seq ..
theorem n_s_drop (f : DE) (L : LS) : dDrop f L = (f L).fl kDrop := S0.s_drop ..
theorem n_s_ret (f : DE) (L : LS) : dRet f L = (f L).fl kRet := S0.s_ret ..
theorem n_s_ifS (t : DT) (g h : DS) (L : LS) : dIfS t g h L = (t L).fl (kIfS g h) := S0.s_ifS ..
theorem n_s_asg (i : Nat) (f : DE) (L : LS) : dAsg i f L = (f L).fl (kAsg i) := S0.s_asg ..
theorem n_s_augS (i : Nat) (g : GOp) (f : DE) (L : LS) (d : D) : augS i g f L (some (.val d)) = (f L).fl (kAug i g d) := S0.s_augS ..
theorem n_s_tupAsg (is : List Nat) (as : DA) (L : LS) : dTupAsg is as L = (as L).fl (kT is) := S0.s_tupAsg ..
theorem n_s_for (t : Tg) (fi : LS → Rs (List D)) (g : DS) (L : LS) : dFor t fi g L = (fi L).fl (kFor t g) := S0.s_for ..
theorem n_whL_succ (c : DT) (g : DS) (n : Nat) (L : LS) : whL c g (n + 1) L = (c L).fl (kWh c g n) := S0.whL_succ ..
theorem n_s_iseq (f : DE) (L : LS) : dISeq f L = (f L).bind kISeq := S0.s_iseq ..
theorem n_s_irg (on : List D → Option (List D)) (as : DA) (L : LS) : dIRg on as L = (as L).bind (kIRg on) := S0.s_irg ..
theorem n_s_izip (as : LS → Rs (List D)) (L : LS) : dIZip as L = (as L).bind onZ := S0.s_izip ..
theorem n_s_lc (vs : List Nat) (t : Tg) (fi : LS → Rs (List D)) (c : DT) (e : DE) (L : LS) : dLC vs t fi c e L = (fi L).bind (kLC vs t c e) := S0.s_lc ..
theorem n_lcL_cons {vs : List Nat} {t : Tg} {c : DT} {e : DE} {d : D} {ds acc : List D} {L L1 : LS} (h : tgSet t d L = some L1) : lcL vs t c e (d :: ds) acc L =
    ((c L1).wp vs).bind (kL1 vs t c e ds acc) := S0.lcL_cons h
theorem n_s_fn (ms : List Pm) (m : Mir) (as : DA) (L : LS) : dFn ms m as L = (as L).bind (kFn ms m) := S0.s_fn ..
theorem n_s_mut (T : String) (g : GMut) (fo : DE) (as : LS → Rs (List D)) (L : LS) : dMut T g fo as L = (fo L).bind (kMut T g as) := S0.s_mut ..
theorem n_s_store (fe fo fi : DE) (L : LS) : dStore fe fo fi L = (fe L).fl (kSt fo fi) := S0.s_store ..
theorem n_s_oSome (f : DE) (L : LS) : dOSome f L = (f L).bind kOS := S0.s_oSome ..
theorem n_s_sl (fa : DE) (fl fh : LS → Rs (Option Int)) (L : LS) : dSl fa fl fh L = (fa L).bind (kSl fl fh) := S0.s_sl ..
theorem n_s_sl3 (fa : DE) (fl fh fs : LS → Rs (Option Int)) (L : LS) : dSl3 fa fl fh fs L = (fa L).bind (kSl3 fl fh fs) := S0.s_sl3 ..
theorem n_s_lrg1 (f : DE) (L : LS) : dLRg1 f L = (f L).bind kLRg1 := S0.s_lrg1 ..
theorem n_s_lrg2 (f g : DE) (L : LS) : dLRg2 f g L = (f L).bind (kLRg2 g) := S0.s_lrg2 ..
end DV
end
section
set_option Elab.async false
set_option linter.all false
set_option maxRecDepth 100000
set_option maxHeartbeats 4000000
/-! facts about data -/
namespace DV
open PySem PySem.Spec PyProof.Rows L2
/-- plain data without bools and texts, of a depth -/
inductive Sm : Nat → D → Prop
  | int {n} (i : Int) : Sm n (.int i)
  | non {n} : Sm n .non
  | lst {n ds} : (∀ d ∈ ds, Sm n d) → Sm (n + 1) (.lst ds)
  | tup {n ds} : (∀ d ∈ ds, Sm n d) → Sm (n + 1) (.tup ds)
theorem Sm.up {n : Nat} {d : D} (h : Sm n d) : ∀ {m : Nat}, n ≤ m → Sm m d := by
  induction h with
  | int i => exact fun _ => .int i
  | non => exact fun _ => .non
  | @lst n ds _ ih =>
    intro m hm
    obtain ⟨k, rfl⟩ : ∃ k, m = k + 1 := ⟨m - 1, by omega⟩
    exact .lst fun d hd => ih d hd (by omega)
  | @tup n ds _ ih =>
    intro m hm
    obtain ⟨k, rfl⟩ : ∃ k, m = k + 1 := ⟨m - 1, by omega⟩
    exact .tup fun d hd => ih d hd (by omega)
theorem pys_ex {n : Nat} : ∀ {ds : List D}, (∀ d ∈ ds, ∃ p, d.py = some p ∧ p.canLay0 = true ∧ p.depth ≤ n) → ∃ ps, pys ds = some ps ∧ PyData.canLayAll0 ps = true ∧ PyData.depthAll ps ≤ n
  | [], _ => ⟨[], rfl, rfl, Nat.zero_le _⟩
  | d :: ds, h => by
    obtain ⟨p, h1, h2, h3⟩ := h d (by simp)
    obtain ⟨ps, k1, k2, k3⟩ := pys_ex (ds := ds) fun e he => h e (by simp [he])
    refine ⟨p :: ps, by simp only [pys, h1, k1]; rfl, by simp only [PyData.canLayAll0, h2, k2]; rfl, ?_⟩
    simp only [PyData.depthAll]
    omega
theorem Sm.py {n : Nat} {d : D} (h : Sm n d) : ∃ p, d.py = some p ∧ p.canLay0 = true ∧ p.depth ≤ n := by
  induction h with
  | int i => exact ⟨_, rfl, rfl, Nat.zero_le _⟩
  | non => exact ⟨_, rfl, rfl, Nat.zero_le _⟩
  | lst _ ih =>
    obtain ⟨ps, h1, h2, h3⟩ := pys_ex ih
    exact ⟨.list ps, by simp only [D.py, h1]; rfl, by simp only [PyData.canLay0, h2], by simp only [PyData.depth]; omega⟩
  | tup _ ih =>
    obtain ⟨ps, h1, h2, h3⟩ := pys_ex ih
    exact ⟨.tuple ps, by simp only [D.py, h1]; rfl, by simp only [PyData.canLay0, h2], by simp only [PyData.depth]; omega⟩
mutual
theorem eqv_iff : ∀ {n m : Nat} {d e : D} {p q : PyData}, Sm n d → Sm m e → d.py = some p → e.py = some q → (PyData.eqv p q = true ↔ d = e)
  | _, _, .int i, e, p, q, h, k, h1, k1 => by
    cases h1
    cases k with
    | int j => cases k1; simp [PyData.eqv]
    | non => cases k1; simp [PyData.eqv]
    | lst _ => simp only [D.py, Option.map_eq_some_iff] at k1; obtain ⟨_, _, rfl⟩ := k1; simp [PyData.eqv]
    | tup _ => simp only [D.py, Option.map_eq_some_iff] at k1; obtain ⟨_, _, rfl⟩ := k1; simp [PyData.eqv]
  | _, _, .non, e, p, q, h, k, h1, k1 => by
    cases h1
    cases k with
    | int j => cases k1; simp [PyData.eqv]
    | non => cases k1; simp [PyData.eqv]
    | lst _ => simp only [D.py, Option.map_eq_some_iff] at k1; obtain ⟨_, _, rfl⟩ := k1; simp [PyData.eqv]
    | tup _ => simp only [D.py, Option.map_eq_some_iff] at k1; obtain ⟨_, _, rfl⟩ := k1; simp [PyData.eqv]
  | _, _, .lst ds, e, p, q, h, k, h1, k1 => by
    simp only [D.py, Option.map_eq_some_iff] at h1
    obtain ⟨ps, h1, rfl⟩ := h1
    cases h with
    | lst hs =>
      cases k with
      | int j => cases k1; simp [PyData.eqv]
      | non => cases k1; simp [PyData.eqv]
      | @lst _ es ks =>
        simp only [D.py, Option.map_eq_some_iff] at k1
        obtain ⟨qs, k1, rfl⟩ := k1
        simp only [PyData.eqv, D.lst.injEq]
        exact eqvAll_iff hs ks h1 k1
      | tup _ => simp only [D.py, Option.map_eq_some_iff] at k1; obtain ⟨_, _, rfl⟩ := k1; simp [PyData.eqv]
  | _, _, .tup ds, e, p, q, h, k, h1, k1 => by
    simp only [D.py, Option.map_eq_some_iff] at h1
    obtain ⟨ps, h1, rfl⟩ := h1
    cases h with
    | tup hs =>
      cases k with
      | int j => cases k1; simp [PyData.eqv]
      | non => cases k1; simp [PyData.eqv]
      | lst _ => simp only [D.py, Option.map_eq_some_iff] at k1; obtain ⟨_, _, rfl⟩ := k1; simp [PyData.eqv]
      | @tup _ es ks =>
        simp only [D.py, Option.map_eq_some_iff] at k1
        obtain ⟨qs, k1, rfl⟩ := k1
        simp only [PyData.eqv, D.tup.injEq]
        exact eqvAll_iff hs ks h1 k1
  | _, _, .bl _, _, _, _, h, _, _, _ => by cases h
  | _, _, .str _, _, _, _, h, _, _, _ => by cases h
  | _, _, .opq _, _, _, _, h, _, _, _ => by cases h
  | _, _, .dct _, _, _, _, h, _, _, _ => by cases h
  | _, _, .dctT _, _, _, _, h, _, _, _ => by cases h
  | _, _, .scr _, _, _, _, h, _, _, _ => by cases h
  | _, _, .fd _, _, _, _, h, _, _, _ => by cases h
  | _, _, .exn _ _, _, _, _, h, _, _, _ => by cases h
theorem eqvAll_iff : ∀ {n m : Nat} {ds es : List D} {ps qs : List PyData}, (∀ d ∈ ds, Sm n d) → (∀ d ∈ es, Sm m d) → pys ds = some ps → pys es = some qs → (PyData.eqvAll ps qs = true ↔ ds = es)
  | _, _, [], [], ps, qs, _, _, h1, k1 => by cases h1; cases k1; simp [PyData.eqvAll]
  | _, _, [], e :: es, ps, qs, _, _, h1, k1 => by
    cases h1
    simp only [pys, Option.bind_eq_some_iff, Option.map_eq_some_iff] at k1
    obtain ⟨q, _, qs', _, rfl⟩ := k1
    simp [PyData.eqvAll]
  | _, _, d :: ds, [], ps, qs, _, _, h1, k1 => by
    cases k1
    simp only [pys, Option.bind_eq_some_iff, Option.map_eq_some_iff] at h1
    obtain ⟨q, _, qs', _, rfl⟩ := h1
    simp [PyData.eqvAll]
  | _, _, d :: ds, e :: es, ps, qs, hs, ks, h1, k1 => by
    simp only [pys, Option.bind_eq_some_iff, Option.map_eq_some_iff] at h1 k1
    obtain ⟨p, h2, ps', h3, rfl⟩ := h1
    obtain ⟨q, k2, qs', k3, rfl⟩ := k1
    simp only [PyData.eqvAll, Bool.and_eq_true, List.cons.injEq]
    rw [eqv_iff (hs d (by simp)) (ks e (by simp)) h2 k2, eqvAll_iff (fun x hx => hs x (by simp [hx])) (fun x hx => ks x (by simp [hx])) h3 k3]
end
open Classical in
/-- equal data -/
noncomputable def dq (d e : D) : Bool := decide (d = e)
theorem dq_iff {d e : D} : dq d e = true ↔ d = e := by unfold dq; simp
theorem eqB_sm {n m : Nat} {d e : D} (neg : Bool) (h : Sm n d) (k : Sm m e) (hn : n ≤ 60) (hm : m ≤ 60) : gEqB neg d e = some (.v (.bl (if neg then !dq d e else dq d e))) := by
  obtain ⟨p, h1, h2, h3⟩ := h.py
  obtain ⟨q, k1, k2, k3⟩ := k.py
  have e1 : SeqAt.shaped p = true := by unfold SeqAt.shaped; rw [h2, Bool.true_and]; exact decide_eq_true (by omega)
  have e2 : SeqAt.shaped q = true := by unfold SeqAt.shaped; rw [k2, Bool.true_and]; exact decide_eq_true (by omega)
  have e3 : PyData.eqv p q = dq d e := by
    have := eqv_iff h k h1 k1
    rw [← dq_iff] at this
    cases x : PyData.eqv p q <;> cases y : dq d e <;> simp_all
  unfold gEqB
  simp only [h1, k1, e1, e2, e3, Bool.and_self, if_true]
theorem eqB_int (neg : Bool) (i j : Int) : gEqB neg (.int i) (.int j) = some (.v (.bl (if neg then !decide (i = j) else decide (i = j)))) := by
  have : dq (.int i) (.int j) = decide (i = j) := by
    unfold dq
    by_cases h : i = j <;> simp [h]
  rw [eqB_sm (n := 0) (m := 0) neg (.int i) (.int j) (by omega) (by omega), this]
theorem eqB_bl (neg : Bool) (a b : Bool) : gEqB neg (.bl a) (.bl b) = some (.v (.bl (if neg then !(a == b) else (a == b)))) := by
  cases neg <;> cases a <;> cases b <;> rfl
theorem s_eqI (i j : Int) : gEq (.int i) (.int j) = some (.v (.bl (decide (i = j)))) := eqB_int false i j
theorem s_neI (i j : Int) : gNe (.int i) (.int j) = some (.v (.bl (!decide (i = j)))) := eqB_int true i j
theorem s_eqB (i j : Bool) : gEq (.bl i) (.bl j) = some (.v (.bl (i == j))) := eqB_bl false i j
theorem s_neB (i j : Bool) : gNe (.bl i) (.bl j) = some (.v (.bl (!(i == j)))) := eqB_bl true i j
/-- ints as data -/
abbrev dInts (ns : List Int) : List D := ns.map D.int
/-! bounds -/
theorem mulOk_l {i j : Int} (h : i.natAbs < 2 ^ 64) : mulOk i j = true := by unfold mulOk; simp [h]
theorem mulOk_r {i j : Int} (h : j.natAbs < 2 ^ 64) : mulOk i j = true := by unfold mulOk; simp [h]
theorem divOk_of {i j : Int} (h : 0 < j) (h2 : j < 2 ^ 64) : divOk i j = true := by unfold divOk; simp [h]; omega
theorem posOk_of {i j : Int} (h : 0 < j) : posOk i j = true := by unfold posOk; simp [h]
theorem powOk_of {i j : Int} (h0 : 0 ≤ j) (h1 : j ≤ 1000) (h : i.natAbs < 2 ^ 64) : powOk i j = true := by unfold powOk; simp [h0, h1, h]
theorem lenOk_of {n : Nat} (h : n ≤ 1000000) : lenOk n = true := decide_eq_true h
theorem rgOk_of {i : Int} (h : -(2 ^ 62) ≤ i) (h2 : i < 2 ^ 62) : rgOk i = true := by unfold rgOk; simp; omega
theorem atI_at {α : Type} {xs : List α} {i : Int} (h0 : 0 ≤ i) (h : i < xs.length) : L2.atI xs i = xs[i.toNat]? := by
  unfold L2.atI L2.ixN
  rw [if_pos h0, if_pos h]; rfl
theorem D.ints_ints : ∀ ns : List Int, D.ints (dInts ns) = some ns
  | [] => rfl
  | n :: ns => by
    have := D.ints_ints ns
    simp only [dInts] at this
    simp only [dInts, List.map_cons, D.ints, this]; rfl
theorem D.bls_map : ∀ bs : List Bool, D.bls (bs.map D.bl) = some bs
  | [] => rfl
  | n :: ns => by
    have := D.bls_map ns
    simp only [List.map_cons, D.bls, this]; rfl
theorem atI_0 {α : Type} (x0 : α) (l : List α) : L2.atI (x0 :: l) 0 = some x0 := by
  have h : (0 : Int) < ((x0 :: l).length : Nat) := by simp only [List.length_cons]; omega
  rw [atI_at (by decide) h]; rfl
theorem atI_1 {α : Type} (x0 x1 : α) (l : List α) : L2.atI (x0 :: x1 :: l) 1 = some x1 := by
  have h : (1 : Int) < ((x0 :: x1 :: l).length : Nat) := by simp only [List.length_cons]; omega
  rw [atI_at (by decide) h]; rfl
theorem atI_2 {α : Type} (x0 x1 x2 : α) (l : List α) : L2.atI (x0 :: x1 :: x2 :: l) 2 = some x2 := by
  have h : (2 : Int) < ((x0 :: x1 :: x2 :: l).length : Nat) := by simp only [List.length_cons]; omega
  rw [atI_at (by decide) h]; rfl
theorem atI_3 {α : Type} (x0 x1 x2 x3 : α) (l : List α) : L2.atI (x0 :: x1 :: x2 :: x3 :: l) 3 = some x3 := by
  have h : (3 : Int) < ((x0 :: x1 :: x2 :: x3 :: l).length : Nat) := by simp only [List.length_cons]; omega
  rw [atI_at (by decide) h]; rfl
theorem atI_4 {α : Type} (x0 x1 x2 x3 x4 : α) (l : List α) : L2.atI (x0 :: x1 :: x2 :: x3 :: x4 :: l) 4 = some x4 := by
  have h : (4 : Int) < ((x0 :: x1 :: x2 :: x3 :: x4 :: l).length : Nat) := by simp only [List.length_cons]; omega
  rw [atI_at (by decide) h]; rfl
theorem atI_5 {α : Type} (x0 x1 x2 x3 x4 x5 : α) (l : List α) : L2.atI (x0 :: x1 :: x2 :: x3 :: x4 :: x5 :: l) 5 = some x5 := by
  have h : (5 : Int) < ((x0 :: x1 :: x2 :: x3 :: x4 :: x5 :: l).length : Nat) := by simp only [List.length_cons]; omega
  rw [atI_at (by decide) h]; rfl
theorem atI_6 {α : Type} (x0 x1 x2 x3 x4 x5 x6 : α) (l : List α) : L2.atI (x0 :: x1 :: x2 :: x3 :: x4 :: x5 :: x6 :: l) 6 = some x6 := by
  have h : (6 : Int) < ((x0 :: x1 :: x2 :: x3 :: x4 :: x5 :: x6 :: l).length : Nat) := by simp only [List.length_cons]; omega
  rw [atI_at (by decide) h]; rfl
theorem atI_7 {α : Type} (x0 x1 x2 x3 x4 x5 x6 x7 : α) (l : List α) : L2.atI (x0 :: x1 :: x2 :: x3 :: x4 :: x5 :: x6 :: x7 :: l) 7 = some x7 := by
  have h : (7 : Int) < ((x0 :: x1 :: x2 :: x3 :: x4 :: x5 :: x6 :: x7 :: l).length : Nat) := by simp only [List.length_cons]; omega
  rw [atI_at (by decide) h]; rfl
theorem atI_8 {α : Type} (x0 x1 x2 x3 x4 x5 x6 x7 x8 : α) (l : List α) : L2.atI (x0 :: x1 :: x2 :: x3 :: x4 :: x5 :: x6 :: x7 :: x8 :: l) 8 = some x8 := by
  have h : (8 : Int) < ((x0 :: x1 :: x2 :: x3 :: x4 :: x5 :: x6 :: x7 :: x8 :: l).length : Nat) := by simp only [List.length_cons]; omega
  rw [atI_at (by decide) h]; rfl
theorem atI_9 {α : Type} (x0 x1 x2 x3 x4 x5 x6 x7 x8 x9 : α) (l : List α) : L2.atI (x0 :: x1 :: x2 :: x3 :: x4 :: x5 :: x6 :: x7 :: x8 :: x9 :: l) 9 = some x9 := by
  have h : (9 : Int) < ((x0 :: x1 :: x2 :: x3 :: x4 :: x5 :: x6 :: x7 :: x8 :: x9 :: l).length : Nat) := by simp only [List.length_cons]; omega
  rw [atI_at (by decide) h]; rfl
theorem atI_10 {α : Type} (x0 x1 x2 x3 x4 x5 x6 x7 x8 x9 x10 : α) (l : List α) : L2.atI (x0 :: x1 :: x2 :: x3 :: x4 :: x5 :: x6 :: x7 :: x8 :: x9 :: x10 :: l) 10 = some x10 := by
  have h : (10 : Int) < ((x0 :: x1 :: x2 :: x3 :: x4 :: x5 :: x6 :: x7 :: x8 :: x9 :: x10 :: l).length : Nat) := by simp only [List.length_cons]; omega
  rw [atI_at (by decide) h]; rfl
theorem atI_11 {α : Type} (x0 x1 x2 x3 x4 x5 x6 x7 x8 x9 x10 x11 : α) (l : List α) : L2.atI (x0 :: x1 :: x2 :: x3 :: x4 :: x5 :: x6 :: x7 :: x8 :: x9 :: x10 :: x11 :: l) 11 = some x11 := by
  have h : (11 : Int) < ((x0 :: x1 :: x2 :: x3 :: x4 :: x5 :: x6 :: x7 :: x8 :: x9 :: x10 :: x11 :: l).length : Nat) := by simp only [List.length_cons]; omega
  rw [atI_at (by decide) h]; rfl
theorem atI_12 {α : Type} (x0 x1 x2 x3 x4 x5 x6 x7 x8 x9 x10 x11 x12 : α) (l : List α) : L2.atI (x0 :: x1 :: x2 :: x3 :: x4 :: x5 :: x6 :: x7 :: x8 :: x9 :: x10 :: x11 :: x12 :: l) 12 = some x12 := by
  have h : (12 : Int) < ((x0 :: x1 :: x2 :: x3 :: x4 :: x5 :: x6 :: x7 :: x8 :: x9 :: x10 :: x11 :: x12 :: l).length : Nat) := by simp only [List.length_cons]; omega
  rw [atI_at (by decide) h]; rfl
theorem atI_13 {α : Type} (x0 x1 x2 x3 x4 x5 x6 x7 x8 x9 x10 x11 x12 x13 : α) (l : List α) : L2.atI (x0 :: x1 :: x2 :: x3 :: x4 :: x5 :: x6 :: x7 :: x8 :: x9 :: x10 :: x11 :: x12 :: x13 :: l) 13 = some x13 := by
  have h : (13 : Int) < ((x0 :: x1 :: x2 :: x3 :: x4 :: x5 :: x6 :: x7 :: x8 :: x9 :: x10 :: x11 :: x12 :: x13 :: l).length : Nat) := by simp only [List.length_cons]; omega
  rw [atI_at (by decide) h]; rfl
theorem atI_14 {α : Type} (x0 x1 x2 x3 x4 x5 x6 x7 x8 x9 x10 x11 x12 x13 x14 : α) (l : List α) : L2.atI (x0 :: x1 :: x2 :: x3 :: x4 :: x5 :: x6 :: x7 :: x8 :: x9 :: x10 :: x11 :: x12 :: x13 :: x14 :: l) 14 = some x14 := by
  have h : (14 : Int) < ((x0 :: x1 :: x2 :: x3 :: x4 :: x5 :: x6 :: x7 :: x8 :: x9 :: x10 :: x11 :: x12 :: x13 :: x14 :: l).length : Nat) := by simp only [List.length_cons]; omega
  rw [atI_at (by decide) h]; rfl
theorem atI_15 {α : Type} (x0 x1 x2 x3 x4 x5 x6 x7 x8 x9 x10 x11 x12 x13 x14 x15 : α) (l : List α) : L2.atI (x0 :: x1 :: x2 :: x3 :: x4 :: x5 :: x6 :: x7 :: x8 :: x9 :: x10 :: x11 :: x12 :: x13 :: x14 :: x15 :: l) 15 = some x15 := by
  have h : (15 : Int) < ((x0 :: x1 :: x2 :: x3 :: x4 :: x5 :: x6 :: x7 :: x8 :: x9 :: x10 :: x11 :: x12 :: x13 :: x14 :: x15 :: l).length : Nat) := by simp only [List.length_cons]; omega
  rw [atI_at (by decide) h]; rfl
theorem atI_m1 {α : Type} (xs : List α) : L2.atI xs (-1) = xs.getLast? := by
  unfold L2.atI L2.ixN
  rw [if_neg (by decide)]
  cases h : xs with
  | nil => simp
  | cons x l =>
    rw [if_pos (by simp only [List.length_cons]; omega)]
    rw [List.getLast?_eq_getElem?]
    show (x :: l)[(-1 + (((x :: l).length : Nat) : Int)).toNat]? = _
    congr 1
    simp only [List.length_cons]
    omega
end DV
end
section
set_option Elab.async false
set_option linter.all false
set_option maxRecDepth 100000
set_option maxHeartbeats 4000000
/-! loops by what stays true -/
namespace DV
open PySem PySem.Spec PyProof.Rows L2
theorem for_inv {t : Tg} {g : DS} {I : Nat → LS → Prop} : ∀ (ds : List D) (k : Nat) (L : LS), I k L →
    (∀ (j : Nat) (d : D) (L : LS), ds[j]? = some d → I (k + j) L → ∃ L1 L2, tgSet t d L = some L1 ∧ (g L1 = .nx L2 ∨ g L1 = .ct L2) ∧ I (k + j + 1) L2) →
    ∃ L', forL t g ds L = .nx L' ∧ I (k + ds.length) L'
  | [], k, L, h, _ => ⟨L, rfl, h⟩
  | d :: ds, k, L, h, st => by
    obtain ⟨L1, L2, h1, h2, h3⟩ := st 0 d L rfl h
    obtain ⟨L', k1, k2⟩ := for_inv ds (k + 1) L2 h3 (fun j d L hd hi => by
      have := st (j + 1) d L hd (by rw [show k + (j + 1) = k + 1 + j by omega]; exact hi)
      rw [show k + (j + 1) + 1 = k + 1 + j + 1 by omega] at this; exact this)
    refine ⟨L', ?_, by rw [List.length_cons, show k + (ds.length + 1) = k + 1 + ds.length by omega]; exact k2⟩
    rw [S0.forL_cons h1, ← k1]
    rcases h2 with h2 | h2 <;> rw [h2] <;> rfl
theorem lc_inv {vs : List Nat} {t : Tg} {c : DT} {e : DE} {I : Nat → LS → Prop} {F : Nat → D → Prop} : ∀ (ds : List D) (k : Nat) (acc : List D) (L : LS), I k L → acc.length + ds.length ≤ 1000000 →
    (∀ (j : Nat) (d : D) (L : LS), ds[j]? = some d → I (k + j) L → ∃ L1 L2 r L3 y L4, tgSet t d L = some L1 ∧ c L1 = .ok true L2 ∧ e L2 = .ok r L3 ∧ fz L3 r = some (y, L4) ∧ F (k + j) y ∧ I (k + j + 1) (wipeL L4 vs)) →
    ∃ ys L', lcL vs t c e ds acc L = .ok (acc ++ ys) L' ∧ ys.length = ds.length ∧ (∀ (j : Nat) (y : D), ys[j]? = some y → F (k + j) y) ∧ I (k + ds.length) L'
  | [], k, acc, L, h, _, _ => ⟨[], L, by simp [lcL], rfl, by simp, h⟩
  | d :: ds, k, acc, L, h, hl, st => by
    obtain ⟨L1, L2, r, L3, y, L4, h1, h2, h3, h4, h5, h6⟩ := st 0 d L rfl h
    simp only [List.length_cons] at hl
    obtain ⟨ys, L', k1, k2, k3, k4⟩ := lc_inv ds (k + 1) (acc ++ [y]) (wipeL L4 vs) h6 (by simp; omega) (fun j d L hd hi => by
      have := st (j + 1) d L hd (by rw [show k + (j + 1) = k + 1 + j by omega]; exact hi)
      rw [show k + (j + 1) + 1 = k + 1 + j + 1 by omega, show k + (j + 1) = k + 1 + j by omega] at this; exact this)
    refine ⟨y :: ys, L', ?_, by simp [k2], ?_, by rw [List.length_cons, show k + (ds.length + 1) = k + 1 + ds.length by omega]; exact k4⟩
    · rw [S0.lcL_cons h1, h2, Rs.wp_ok, Rs.bind_ok, if_pos rfl, h3, Rs.wp_ok, Rs.bind_ok, h4, S0.s_onF, if_pos (lenOk_of (by omega)), k1]; simp
    · intro j y' hy
      cases j with
      | zero => simp at hy; subst hy; exact h5
      | succ j => rw [show k + (j + 1) = k + 1 + j by omega]; exact k3 j y' (by simpa using hy)
theorem rgD_len (i s : Int) (n : Nat) : (rgD i s n).length = n := by simp [rgD]
theorem rg_at {i : Int} {n j : Nat} {d : D} (h : (rgD i 1 n)[j]? = some d) : d = .int (i + j) ∧ j < n := by
  have hj : j < n := by
    have := (List.getElem?_eq_some_iff.mp h).1; rwa [rgD_len] at this
  refine ⟨?_, hj⟩
  simp [rgD, hj] at h
  rw [← h]
theorem rg0_at {n j : Nat} {d : D} (h : (rgD 0 1 n)[j]? = some d) : d = .int (j : Int) ∧ j < n := by
  have := rg_at h
  simpa using this
theorem all_bl {b : Bool} {ys : List D} (h : ∀ (j : Nat) (y : D), ys[j]? = some y → y = .bl b) : D.bls ys = some (List.replicate ys.length b) := by
  have : ys = (List.replicate ys.length b).map D.bl := by
    apply List.ext_getElem?
    intro j
    by_cases hj : j < ys.length
    · rw [List.getElem?_eq_getElem hj, h j _ (List.getElem?_eq_getElem hj)]; simp [hj]
    · rw [List.getElem?_eq_none (by omega), List.getElem?_eq_none (by simp; omega)]
  rw [this, D.bls_map]; simp
theorem all_true {ys : List D} (h : ∀ (j : Nat) (y : D), ys[j]? = some y → y = .bl true) : gAll [.lst ys] = some (.v (.bl true)) := by
  rw [S0.s_all, all_bl h]; simp
/-! isinstance, kind by kind -/
theorem isi_non_int : gIsi [.non, .opq (.ty "int")] = some (.v (.bl false)) := rfl
theorem isi_non_bool : gIsi [.non, .opq (.ty "bool")] = some (.v (.bl false)) := rfl
theorem isi_non_str : gIsi [.non, .opq (.ty "str")] = some (.v (.bl false)) := rfl
theorem isi_non_list : gIsi [.non, .opq (.ty "list")] = some (.v (.bl false)) := rfl
theorem isi_non_tuple : gIsi [.non, .opq (.ty "tuple")] = some (.v (.bl false)) := rfl
theorem isi_non_seq : gIsi [.non, .tup [.opq (.ty "list"), .opq (.ty "tuple")]] = some (.v (.bl false)) := rfl
theorem isN_non (n : Bool) : gIsN n (.non) .non = some (.v (.bl (!n))) := by cases n <;> rfl
theorem isi_bl_int (b : Bool) : gIsi [.bl b, .opq (.ty "int")] = some (.v (.bl true)) := rfl
theorem isi_bl_bool (b : Bool) : gIsi [.bl b, .opq (.ty "bool")] = some (.v (.bl true)) := rfl
theorem isi_bl_str (b : Bool) : gIsi [.bl b, .opq (.ty "str")] = some (.v (.bl false)) := rfl
theorem isi_bl_list (b : Bool) : gIsi [.bl b, .opq (.ty "list")] = some (.v (.bl false)) := rfl
theorem isi_bl_tuple (b : Bool) : gIsi [.bl b, .opq (.ty "tuple")] = some (.v (.bl false)) := rfl
theorem isi_bl_seq (b : Bool) : gIsi [.bl b, .tup [.opq (.ty "list"), .opq (.ty "tuple")]] = some (.v (.bl false)) := rfl
theorem isN_bl (n : Bool) (b : Bool) : gIsN n (.bl b) .non = some (.v (.bl n)) := by cases n <;> rfl
theorem isi_int_int (i : Int) : gIsi [.int i, .opq (.ty "int")] = some (.v (.bl true)) := rfl
theorem isi_int_bool (i : Int) : gIsi [.int i, .opq (.ty "bool")] = some (.v (.bl false)) := rfl
theorem isi_int_str (i : Int) : gIsi [.int i, .opq (.ty "str")] = some (.v (.bl false)) := rfl
theorem isi_int_list (i : Int) : gIsi [.int i, .opq (.ty "list")] = some (.v (.bl false)) := rfl
theorem isi_int_tuple (i : Int) : gIsi [.int i, .opq (.ty "tuple")] = some (.v (.bl false)) := rfl
theorem isi_int_seq (i : Int) : gIsi [.int i, .tup [.opq (.ty "list"), .opq (.ty "tuple")]] = some (.v (.bl false)) := rfl
theorem isN_int (n : Bool) (i : Int) : gIsN n (.int i) .non = some (.v (.bl n)) := by cases n <;> rfl
theorem isi_str_int (x : Str) : gIsi [.str x, .opq (.ty "int")] = some (.v (.bl false)) := rfl
theorem isi_str_bool (x : Str) : gIsi [.str x, .opq (.ty "bool")] = some (.v (.bl false)) := rfl
theorem isi_str_str (x : Str) : gIsi [.str x, .opq (.ty "str")] = some (.v (.bl true)) := rfl
theorem isi_str_list (x : Str) : gIsi [.str x, .opq (.ty "list")] = some (.v (.bl false)) := rfl
theorem isi_str_tuple (x : Str) : gIsi [.str x, .opq (.ty "tuple")] = some (.v (.bl false)) := rfl
theorem isi_str_seq (x : Str) : gIsi [.str x, .tup [.opq (.ty "list"), .opq (.ty "tuple")]] = some (.v (.bl false)) := rfl
theorem isN_str (n : Bool) (x : Str) : gIsN n (.str x) .non = some (.v (.bl n)) := by cases n <;> rfl
theorem isi_lst_int (ds : List D) : gIsi [.lst ds, .opq (.ty "int")] = some (.v (.bl false)) := rfl
theorem isi_lst_bool (ds : List D) : gIsi [.lst ds, .opq (.ty "bool")] = some (.v (.bl false)) := rfl
theorem isi_lst_str (ds : List D) : gIsi [.lst ds, .opq (.ty "str")] = some (.v (.bl false)) := rfl
theorem isi_lst_list (ds : List D) : gIsi [.lst ds, .opq (.ty "list")] = some (.v (.bl true)) := rfl
theorem isi_lst_tuple (ds : List D) : gIsi [.lst ds, .opq (.ty "tuple")] = some (.v (.bl false)) := rfl
theorem isi_lst_seq (ds : List D) : gIsi [.lst ds, .tup [.opq (.ty "list"), .opq (.ty "tuple")]] = some (.v (.bl true)) := rfl
theorem isN_lst (n : Bool) (ds : List D) : gIsN n (.lst ds) .non = some (.v (.bl n)) := by cases n <;> rfl
theorem isi_tup_int (ds : List D) : gIsi [.tup ds, .opq (.ty "int")] = some (.v (.bl false)) := rfl
theorem isi_tup_bool (ds : List D) : gIsi [.tup ds, .opq (.ty "bool")] = some (.v (.bl false)) := rfl
theorem isi_tup_str (ds : List D) : gIsi [.tup ds, .opq (.ty "str")] = some (.v (.bl false)) := rfl
theorem isi_tup_list (ds : List D) : gIsi [.tup ds, .opq (.ty "list")] = some (.v (.bl false)) := rfl
theorem isi_tup_tuple (ds : List D) : gIsi [.tup ds, .opq (.ty "tuple")] = some (.v (.bl true)) := rfl
theorem isi_tup_seq (ds : List D) : gIsi [.tup ds, .tup [.opq (.ty "list"), .opq (.ty "tuple")]] = some (.v (.bl true)) := rfl
theorem isN_tup (n : Bool) (ds : List D) : gIsN n (.tup ds) .non = some (.v (.bl n)) := by cases n <;> rfl
theorem b_tt : (true == true) = true := rfl
theorem b_tf : (true == false) = false := rfl
theorem b_ft : (false == true) = false := rfl
theorem b_ff : (false == false) = true := rfl
theorem s_eqN : gEq .non .non = some (.v (.bl true)) := rfl
theorem s_neN : gNe .non .non = some (.v (.bl false)) := rfl
end DV
end
section
set_option Elab.async false
set_option linter.all false
set_option maxRecDepth 100000
set_option maxHeartbeats 4000000
namespace DV
open PySem PySem.Spec PyProof.Rows L2
def kUnp (is : List Nat) (r : R) (L : LS) : Fl := onUnp is (fz L r)
theorem n_s_unp (is : List Nat) (f : DE) (L : LS) : dUnp is f L = (f L).fl (kUnp is) := rfl
theorem s_unpT (is : List Nat) (ds : List D) (L : LS) : onUnp is (some (.tup ds, L)) = S0.onN (setVals is ds L) := by
  show (match setVals is ds L with | some L3 => Fl.nx L3 | none => .stuck) = _
  cases setVals is ds L <;> rfl
theorem s_maxL (xs : List D) : gMaxL [.lst xs] = onMM maxI (D.ints xs) := rfl
theorem s_minL (xs : List D) : gMinL [.lst xs] = onMM minI (D.ints xs) := rfl
theorem s_onMM (f : Int → List Int → Int) (n : Int) (ns : List Int) : onMM f (some (n :: ns)) = some (.v (.int (f n ns))) := rfl
theorem s_inL (neg : Bool) (i : Int) (xs : List D) : gInB neg (.int i) (.lst xs) = onIn neg i (D.ints xs) := rfl
theorem s_inT (neg : Bool) (i : Int) (xs : List D) : gInB neg (.int i) (.tup xs) = onIn neg i (D.ints xs) := rfl
theorem s_onIn (i : Int) (ns : List Int) : onIn false i (some ns) = some (.v (.bl (decide (i ∈ ns)))) := rfl
theorem s_onNotIn (i : Int) (ns : List Int) : onIn true i (some ns) = some (.v (.bl (!decide (i ∈ ns)))) := rfl
theorem s_LRg2 (a b : Int) : gLRg2 (.int a) (.int b) = if rgEok a b = true then some (.t (.lst (rgE a b))) else none := rfl
end DV
end
section
set_option Elab.async false
set_option linter.all false
set_option maxRecDepth 100000
set_option maxHeartbeats 4000000
namespace DV
open PySem PySem.Spec PyProof.Rows L2
/-! ### frozen results, slots frozen, slots forgotten -/
def fzR (f : DE) : DE := fun L => (f L).bind fun r L1 => match fz L1 r with
  | some (d, L2) => .ok (.v d) L2
  | none => .stuck
section
variable {X : Cx} {E : XK} {e : Expr} {f : DE}
theorem de_fz (h : DEx X E e f) : DEx X E e (fzR f) := PE.imp h fun σ H Q ⟨B, L, G, hK, E0, P⟩ =>
  ⟨B, L, G, hK, E0, PostG.next P .refl fun r L' v H' G' S' E' R' P1 => by
    split at P1
    · rename_i d L2 q
      obtain ⟨G2, S2, E2, r2⟩ := fz_ok E0 E' S' R' q
      exact P1 v H' G2 S2 E2 r2
    · exact P1.elim⟩
theorem EnvOk.wiped {B : Bs} {L : LS} {σ : St} {H G : Hp} (E0 : EnvOk B L σ H G) (vs : List Nat) : EnvOk B (wipeL L vs) σ H G :=
  E0.swap ((wipeL_length L vs).trans E0.len) fun i s h n => (wipeL_get h).elim (fun z => absurd z n) fun z => ⟨z.1, rfl⟩
/-- slots forgotten ahead of a block, and behind it -/
def dKB (vs : List Nat) (g : DS) : DS := fun L => g (wipeL L vs)
def Fl.wiped (vs : List Nat) : Fl → Fl
  | .nx L => .nx (wipeL L vs)
  | .ct L => .ct (wipeL L vs)
  | .brk L => .brk (wipeL L vs)
  | r => r
def dKA (vs : List Nat) (g : DS) : DS := fun L => (g L).wiped vs
theorem tKB_of {K : PySem.W.Frag} {vs : List Nat} {g : DS} {D : Ends} {σ : St} {H : Hp} : tS K E (dKB vs g) D σ H → tS K E g D σ H := fun ⟨B, L, G, hK, E0, P⟩ => ⟨B, wipeL L vs, G, hK, E0.wiped vs, P⟩
theorem tKA_of {K : PySem.W.Frag} {vs : List Nat} {g : DS} {D : Ends} {σ : St} {H : Hp} : tS K E (dKA vs g) D σ H → tS K E g D σ H := fun ⟨B, L, G, hK, E0, P⟩ => ⟨B, L, G, hK, E0, by
  unfold dKA at P
  cases q : g L with
  | nx L' => rw [q] at P; exact fun σ' H' G' s E' => P σ' H' G' s (E'.wiped vs)
  | ct L' => rw [q] at P; exact fun σ' H' G' s E' => P σ' H' G' s (E'.wiped vs)
  | brk L' => rw [q] at P; exact fun σ' H' G' s E' => P σ' H' G' s (E'.wiped vs)
  | ret r L' => rw [q] at P; exact P
  | exc e L' => rw [q] at P; exact P
  | stuck => rw [q] at P; exact P⟩
theorem ds_kb {st : Stmt} {g : DS} (vs : List Nat) (h : DSx X E st g) : DSx X E st (dKB vs g) := PS.imp h fun _ _ _ => tKB_of
theorem dss_ka {st : List Stmt} {g : DS} (vs : List Nat) (h : DSsx X E st g) : DSsx X E st (dKA vs g) := PSs.imp h fun _ _ _ => tKA_of
/-- a slot's object is frozen -/
def fzG (i : Nat) (L : LS) : Option Sl → LS
  | some (.obj .own d) => L.set i (.val d)
  | _ => L
def fzSl (i : Nat) (L : LS) : LS := fzG i L L[i]?
theorem EnvOk.fzSl {B : Bs} {L : LS} {σ : St} {H G : Hp} (E0 : EnvOk B L σ H G) (i : Nat) : ∃ G', GSub G G' ∧ EnvOk B (fzSl i L) σ H G' := by
  unfold DV.fzSl fzG
  split
  · rename_i d q
    obtain ⟨a, o, e1, _⟩ := E0.at_ i _ q
    have : fz L (.s i) = some (d, L.set i (.val d)) := by simp only [fz, q]
    obtain ⟨G', S', E', _⟩ := fz_ok E0 E0 .refl (v := .ref a) (show RR B.K H L σ H G (.ref a) (.s i) from e1) this
    exact ⟨G', S'.gsub, E'⟩
  · exact ⟨G, GSub.refl, E0⟩
def Fl.frozen (i : Nat) : Fl → Fl
  | .nx L => .nx (fzSl i L)
  | r => r
def dFz (i : Nat) (g : DS) : DS := fun L => (g L).frozen i
theorem ds_fz {st : Stmt} {g : DS} (i : Nat) (h : DSx X E st g) : DSx X E st (dFz i g) := PS.imp h fun D σ H ⟨B, L, G, hK, E0, P⟩ => ⟨B, L, G, hK, E0, by
  unfold dFz at P
  cases q : g L with
  | nx L' =>
    rw [q] at P
    intro σ' H' G' s E'
    obtain ⟨G2, s2, E2⟩ := E'.fzSl i
    exact P σ' H' G2 (s.trans s2) E2
  | ct L' => rw [q] at P; exact P
  | brk L' => rw [q] at P; exact P
  | ret r L' => rw [q] at P; exact P
  | exc e L' => rw [q] at P; exact P
  | stuck => rw [q] at P; exact P⟩
end
/-! stepping -/
def kFzR (r : R) (L : LS) : Rs R := match fz L r with
  | some (d, L2) => .ok (.v d) L2
  | none => .stuck
theorem n_s_fzR (f : DE) (L : LS) : fzR f L = (f L).bind kFzR := rfl
theorem s_kFzv (d : D) (L : LS) : kFzR (.v d) L = .ok (.v d) L := rfl
theorem s_kFzt (d : D) (L : LS) : kFzR (.t d) L = .ok (.v d) L := rfl
theorem s_kFzi (b : Bool) (d : D) (L : LS) : kFzR (if b = true then .t d else .v d) L = .ok (.v d) L := by cases b <;> rfl
def kFzS (i : Nat) (L : LS) : Option Sl → Rs R
  | some (.val d) => .ok (.v d) L
  | some (.obj .own d) => .ok (.v d) (L.set i (.val d))
  | _ => .stuck
theorem s_kFzs (i : Nat) (L : LS) : kFzR (.s i) L = kFzS i L L[i]? := by
  unfold kFzR kFzS
  simp only [fz]
  cases h : L[i]? with
  | none => rfl
  | some s => cases s with
    | obj m d => cases m <;> rfl
    | _ => rfl
theorem s_kFzS1 (i : Nat) (L : LS) (d : D) : kFzS i L (some (.val d)) = .ok (.v d) L := rfl
theorem s_kFzS2 (i : Nat) (L : LS) (d : D) : kFzS i L (some (.obj .own d)) = .ok (.v d) (L.set i (.val d)) := rfl
theorem n_s_kb (vs : List Nat) (g : DS) (L : LS) : dKB vs g L = g (wipeL L vs) := rfl
theorem n_s_ka (vs : List Nat) (g : DS) (L : LS) : dKA vs g L = (g L).wiped vs := rfl
theorem s_wdn (vs : List Nat) (L : LS) : (Fl.nx L).wiped vs = .nx (wipeL L vs) := rfl
theorem s_wdc (vs : List Nat) (L : LS) : (Fl.ct L).wiped vs = .ct (wipeL L vs) := rfl
theorem s_wdb (vs : List Nat) (L : LS) : (Fl.brk L).wiped vs = .brk (wipeL L vs) := rfl
theorem s_wdr (vs : List Nat) (r : R) (L : LS) : (Fl.ret r L).wiped vs = .ret r L := rfl
theorem n_s_dfz (i : Nat) (g : DS) (L : LS) : dFz i g L = (g L).frozen i := rfl
theorem s_fzn (i : Nat) (L : LS) : (Fl.nx L).frozen i = .nx (fzG i L L[i]?) := rfl
theorem s_fzG1 (i : Nat) (L : LS) (d : D) : fzG i L (some (.obj .own d)) = L.set i (.val d) := rfl
theorem s_fzG2 (i : Nat) (L : LS) (d : D) : fzG i L (some (.val d)) = L := rfl
theorem s_fzG3 (i : Nat) (L : LS) : fzG i L (some .un) = L := rfl
/-! ### loops whose states are known -/
/-- a comprehension over a list, its items mapped -/
theorem lc_map {α : Type} {vs : List Nat} {t : Tg} {c : DT} {e : DE} {L0 : LS} (q : α → D) (p : α → Bool) (f : α → D) : ∀ (xs : List α) (acc : List D), acc.length + xs.length ≤ 1000000 →
    (∀ x ∈ xs, ∃ L1, tgSet t (q x) L0 = some L1 ∧ ∃ L2, c L1 = .ok (p x) L2 ∧ (p x = false → wipeL L2 vs = L0) ∧ (p x = true → ∃ r L3 L4, e L2 = .ok r L3 ∧ fz L3 r = some (f x, L4) ∧ wipeL L4 vs = L0)) →
    lcL vs t c e (xs.map q) acc L0 = .ok (acc ++ (xs.filter p).map f) L0
  | [], acc, _, _ => by simp [lcL]
  | x :: xs, acc, hl, h => by
    obtain ⟨L1, h1, L2, h2, h3, h4⟩ := h x (by simp)
    simp only [List.length_cons] at hl
    cases hp : p x with
    | false =>
      rw [hp] at h2
      rw [List.map_cons, S0.lcL_cons h1, h2, Rs.wp_ok, Rs.bind_ok, if_neg (by simp), h3 hp, lc_map q p f xs acc (by omega) fun y hy => h y (by simp [hy])]
      simp [hp]
    | true =>
      rw [hp] at h2
      obtain ⟨r, L3, L4, k1, k2, k3⟩ := h4 hp
      rw [List.map_cons, S0.lcL_cons h1, h2, Rs.wp_ok, Rs.bind_ok, if_pos rfl, k1, Rs.wp_ok, Rs.bind_ok, k2, S0.s_onF, if_pos (lenOk_of (by omega)), k3, lc_map q p f xs (acc ++ [f x]) (by simp; omega) fun y hy => h y (by simp [hy])]
      simp [hp]
/-- .. without a test -/
theorem lc_mapA {α : Type} {vs : List Nat} {t : Tg} {e : DE} {L0 : LS} (q : α → D) (f : α → D) (xs : List α) (hl : xs.length ≤ 1000000)
    (h : ∀ x ∈ xs, ∃ L1, tgSet t (q x) L0 = some L1 ∧ ∃ r L3 L4, e L1 = .ok r L3 ∧ fz L3 r = some (f x, L4) ∧ wipeL L4 vs = L0) :
    lcL vs t dYes e (xs.map q) [] L0 = .ok (xs.map f) L0 := by
  have := lc_map (vs := vs) (t := t) (c := dYes) (e := e) (L0 := L0) q (fun _ => true) f xs [] (by simpa using hl) fun x hx => by
    obtain ⟨L1, h1, h2⟩ := h x hx
    exact ⟨L1, h1, L1, rfl, by simp, fun _ => h2⟩
  rw [this, List.nil_append, List.filter_eq_self.mpr fun _ _ => rfl]
end DV
end
section
set_option Elab.async false
set_option linter.all false
set_option maxRecDepth 100000
set_option maxHeartbeats 4000000
namespace DV
open PySem PySem.Spec PyProof.Rows L2 PySem.W
section
variable {X : Cx} {K : PySem.W.Frag}
theorem CallSnd.or {r r' : List V → Hp → VK → Prop} {g g' : GCall} (h : CallSnd K r g) (h' : CallSnd K r' g') : CallSnd K (fun xs H Q => r xs H Q ∨ r' xs H Q) (fun ds => (g ds).or (g' ds)) := by
  intro B L σ H G vs ds res Q hK E0 hr hg hQ
  cases q : g ds with
  | some u =>
    have e1 : u = res := by simpa [q] using hg
    subst e1
    exact .inl (h B L σ H G vs ds _ Q hK E0 hr q hQ)
  | none => exact .inr (h' B L σ H G vs ds _ Q hK E0 hr (by simpa [q] using hg) hQ)
/-! on data -/
/-- what a list or a tuple holds -/
def seqOf : D → Option (List D)
  | .lst ds => some ds
  | .tup ds => some ds
  | _ => none
theorem RpN.seq {H G : Hp} (sb : ∀ a o, G a = some o → H a = some o) {v : V} {d : D} {ds : List D} (h : RpN K H G v d) (e : seqOf d = some ds) : ∃ a vs, v = .ref a ∧ (SqL K H a vs ∨ SqT K H a vs) ∧ Rps K G vs ds := by
  cases d with
  | lst xs => cases e; obtain ⟨a, vs, e, h1, h2⟩ := h.lst sb; exact ⟨a, vs, e, .inl (.of h1), h2⟩
  | tup xs => cases e; obtain ⟨a, vs, e, h1, h2⟩ := h.tup sb; exact ⟨a, vs, e, .inr (.of h1), h2⟩
  | _ => cases e
/-! list.index of an int -/
end
/-! stepping -/
end DV
end
section
set_option Elab.async false
set_option linter.all false
set_option maxRecDepth 100000
set_option maxHeartbeats 4000000
namespace DV
open PySem PySem.Spec PyProof.Rows L2 PySem.W
/-! ### enumerate of one argument, whatever can be walked -/
abbrev enObj (a : Addr) : Obj := { cls := .type "enumerate", data := .fields #[.none, .bool false, .ref a, rawInt 0, .none, .none] }
theorem en_new {v : Value} {o : Obj} {J : Heap → Prop} (B : Begins v o J) : Meets (Builtin.«enumerate.__new__» ⟨[.type "enumerate", v], []⟩)
    (fun _ R s => J s.heap ∧ R (.ok (.ret (.ref (s.heap.push o).objs.size))) { s with heap := (s.heap.push o).push (enObj s.heap.objs.size) }) := .of_wp fun prog w A R s h => by
  obtain ⟨hp, gn, dr, tk, os⟩ := s; obtain ⟨hj, h⟩ := h; have sb := sub_enumerate
  have it : ∀ {A' : Around} {E Q : Value → Shared → Prop}, Q (.ref hp.objs.size) ⟨hp.push o, gn, dr, tk, os⟩ → wpAny (model prog w) A' (pyIter v) Q E ⟨hp, gn, dr, tk, os⟩ := fun q => B.iter prog w _ _ ⟨hp, gn, dr, tk, os⟩ _ hj q
  have fin := fun (Q : Prop) (x : Q) => x
  wp_walk using it; refine wpAny_stack_any fun _ => wpAny_pure ?_; split
  · rename_i c _ _ _ _ _; cases (c == Value.type "enumerate") <;> (wp_walk using it; exact ⟨_, rfl, h⟩)
  · wp_walk using it; exact ⟨_, rfl, h⟩
section
variable {prog : Program} {w : World} {A : Around} {E : Value → Shared → Prop} {s : Shared}
theorem en_call {v : Value} {o : Obj} {J : Heap → Prop} {Q : Value → Shared → Prop} (B : Begins v o J) (hj : J s.heap)
    (h : ∀ h', IsEnum h' (s.heap.objs.size + 1) s.heap.objs.size 0 .none → h'.get? s.heap.objs.size = some o → (∀ b u, s.heap.get? b = some u → h'.get? b = some u) → Q (.ref (s.heap.objs.size + 1)) { s with heap := h' }) :
    wpAny (model prog w) A (call (.type "enumerate") [v]) Q E s := by
  refine callType_new F.called_enumerate (by decide) (F.typeCall_enumerate_1 _) (F.newCall_enumerate_1 _) (fun ob => F.args_object_init_2 ob _) F.entry_enumerate_new (en_new B) ⟨hj, ?_⟩
  have z : (s.heap.push o).objs.size = s.heap.objs.size + 1 := Heap.size_push ..
  show _ ∧ _; rw [z]
  have e : IsEnum ((s.heap.push o).push (enObj s.heap.objs.size)) (s.heap.objs.size + 1) s.heap.objs.size 0 .none := by
    have k := Heap.get?_push_size (s.heap.push o) (o := enObj s.heap.objs.size) rfl
    rwa [z] at k
  exact ⟨⟨_, e, rfl⟩, h _ e (Heap.get?_push_of_some _ (Heap.get?_push_size _ B.free)) fun b u x => Heap.get?_push_of_some _ (Heap.get?_push_of_some _ x)⟩
end
/-- the tuple at a, each item in a new pair -/
def IteT (K : PySem.W.Frag) (a : Addr) : It where
  go := fun i H => ∃ (xs : List V) (x : V), SqT K H a xs ∧ xs[i]? = some x
  yld := fun i H v H' => ∃ T x, v = .ref T ∧ H T = none ∧ H' = upd H T (.tup [.int (i : Nat), x]) ∧ ∀ ys, SqT K H a ys → ys[i]? = some x
  stop := fun i H => ∃ xs : List V, SqT K H a xs ∧ xs.length = i
theorem turn_enumT {P : Program} {w : World} {K : PySem.W.Frag} {elts : List Expr} {kk : Nat} {tpos : Pos} (a e it : Addr) :
    Turn P w K (.Tuple elts kk tpos) (IteT K a) [e, it] e (fun i h => (∃ old, IsEnum h e it ((i : Nat) : Int) old) ∧ h.IsTupleIter it a i ∧ e ≠ it ∧ a ≠ it ∧ a ≠ e) where
  mem := List.mem_cons_self ..
  obj := fun i h ⟨⟨old, h1⟩, ⟨o, h2, h3, h4⟩, _⟩ b hb => by
    rcases List.mem_cons.mp hb with z | z
    · subst z; exact ⟨_, h1, fun v q => nomatch q⟩
    · rcases List.mem_cons.mp z with z | z
      · subst z; exact ⟨o, h2, fun v q => by rw [h4] at q; cases q⟩
      · cases z
  keep := fun i h h' ⟨⟨old, h1⟩, h2, h3⟩ k => ⟨⟨old, k e (by simp) _ h1⟩, h2.at fun o q => k it (by simp) o q, h3⟩
  item := by
    intro X hP hw hK hc i pins s σ H E I hf st hg
    subst hP hw hK
    obtain ⟨⟨old, he⟩, hit, hne, hai, hae⟩ := st
    obtain ⟨xs, x, hq, hx⟩ := hg
    obtain ⟨its, rv, p, _⟩ := I.tuple hq
    obtain ⟨u, hu, ru⟩ := rv.get hx
    have D := Draws.tuple (prog := X.prog) (w := X.w) (A := X.A.in1) (I.ok.hd hc) it a hai its.toArray
    have hi : i < its.toArray.size := by simpa using (List.getElem?_eq_some_iff.mp hu).1
    refine wpAny_pyNext_enum_itemD D he ⟨hit, p⟩ hi hne (by simp [hne, Ne.symm hae]) fun x' h' tk hx' ho st' hT hsz hk => ?_
    have ex : x' = u := by simpa [hu] using hx'.symm
    subst ex
    refine ⟨_, rfl, wpAny_letOwnedTupleGo_enum (s := { s with heap := h', toks := tk + 1 }) ho fun h'' he' sb => ?_⟩
    have le : e < s.heap.objs.size := Heap.lt_size he
    have li : it < s.heap.objs.size := by obtain ⟨_, q, _⟩ := hit; exact Heap.lt_size q
    have hT2 := (sb.2 _ (Nat.ne_of_gt le)).trans hT
    have I1 : Inv X pins σ (upd H s.heap.objs.size (.tup [.int (i : Nat), x])) { s with heap := h'', toks := tk + 1 } :=
      I.turnedNew (ch := [e, it]) (fun b ob hb q => (sb.2 b fun z => hb (by simp [z])).trans (hk b ob (fun z => hb (by simp [z])) (fun z => hb (by simp [z])) q)) hf (Nat.le_refl _) ⟨by show 2 ≤ sizeLine; decide, _, .cons ⟨_, rfl⟩ (.cons ru .nil), ⟨_, hT2, rfl, _, rfl⟩⟩
    refine ⟨.ref s.heap.objs.size, _, I1, rfl, ⟨_, x, rfl, I.hok.fresh (Nat.le_refl _), rfl, fun ys hy => ?_⟩, ⟨⟨x', ?_⟩, st'.1.at fun o q => (sb.2 it (Ne.symm hne)).trans q, hne, hai, hae⟩, fun b hb => ?_⟩
    · rw [I.tuple_inj hy hq]; exact hx
    · rw [show ((i + 1 : Nat) : Int) = (i : Int) + 1 by omega]; exact he'
    · have lb : b < s.heap.objs.size := by
        rcases List.mem_cons.mp hb with z | z
        · subst z; exact le
        · rcases List.mem_cons.mp z with z | z
          · subst z; exact li
          · cases z
      rw [upd_ne (Nat.ne_of_lt lb)]; exact (hf b hb).1
  done := by
    intro X hP hw hK hc i pins s σ H E I hf st hg
    subst hP hw hK
    obtain ⟨⟨old, he⟩, hit, hne, hai, hae⟩ := st
    obtain ⟨xs, hq, hx⟩ := hg
    obtain ⟨its, rv, p, _⟩ := I.tuple hq
    obtain ⟨f0, f1, f2, f3, f4, f5⟩ := hf it (by simp)
    have hl := rv.length
    have D := Draws.tuple (prog := X.prog) (w := X.w) (A := X.A.in1) (I.ok.hd hc) it a hai its.toArray
    have hit2 : s.heap.IsTupleIter it a its.toArray.size := by rw [show its.toArray.size = i by simp; omega]; exact hit
    exact wpAny_pyNext_enum_endD D he ⟨hit2, p⟩ fun h' eb => ⟨rfl, I.turned (t' := s.toks) (fun b o hb q => eb b o hb q) f0 f1 f3 f4 f5⟩
  self := fun A i s Q E ⟨⟨_, he⟩, _⟩ h => wpAny_pyIter_enum he h
def iEnumA (K : PySem.W.Frag) (ta : TA) : TI := fun σ H R => ta σ H fun vs H1 => ∃ a xs, vs = [.ref a] ∧ ((SqL K H1 a xs ∧ R (Ite K a) H1) ∨ (SqT K H1 a xs ∧ R (IteT K a) H1))
theorem pi_enumA {X : Cx} {e : Expr} {ta : TA} {p pos tpos : Pos} {elts : List Expr} {kk : Nat} (hg : Gl X "enumerate") (hm : X.mg "enumerate" = none) (ha : PA X [e] ta) (hs : starEach [e] X.env = [(false, eval e X.env)] := by rfl) :
    PI X (.Tuple elts kk tpos) (.Call (.Name "enumerate" p) [e] [] pos) (iEnumA X.K ta) := by
  refine ⟨fun pins s σ H R I h => Call_ (ld_blt I hg hm boot_enumerate (PyProof.Rows.callWith_type1 (thn (ha.run pos pins s σ H _ I h) fun us s1 ⟨vs, H1, I1, r1, q1⟩ => ?_) hs rfl))⟩
  obtain ⟨a, xs, ex, hq⟩ := q1
  subst ex
  cases r1 with | cons r rr =>
  cases rr; cases r
  have fp : ∀ b ∈ [s1.heap.objs.size + 1, s1.heap.objs.size], s1.heap.objs.size ≤ b := fun b hb => by
    rcases List.mem_cons.mp hb with z | z
    · omega
    · rcases List.mem_cons.mp z with z | z
      · omega
      · cases z
  rcases hq with ⟨hq, q⟩ | ⟨hq, q⟩
  · obtain ⟨its, rv, p', _⟩ := I1.list hq
    refine call_enumerate_list p'.isList fun h' he hit _ hk => wpAny_pyIter_enum he ?_
    have I2 : Inv X pins σ H1 { s1 with heap := h' } := I1.kept (t' := s1.toks) hk
    exact ⟨_, _, _, _, H1, rfl, I2, turn_enum a (s1.heap.objs.size + 1) s1.heap.objs.size, ⟨⟨.none, he⟩, hit, Nat.succ_ne_self _⟩, fun b hb => I1.fpOk (fp b hb) (I1.hok.fresh (fp b hb)), q⟩
  · obtain ⟨its, rv, p', _⟩ := I1.tuple hq
    have la : a < s1.heap.objs.size := by obtain ⟨o, ho, _⟩ := p'; exact Heap.lt_size ho
    refine en_call (begins_tuple a its.toArray) p' fun h' he hit hk => wpAny_pyIter_enum he ?_
    have I2 : Inv X pins σ H1 { s1 with heap := h' } := I1.kept (t' := s1.toks) hk
    exact ⟨_, _, _, _, H1, rfl, I2, turn_enumT a (s1.heap.objs.size + 1) s1.heap.objs.size, ⟨⟨.none, he⟩, ⟨_, hit, rfl, rfl⟩, Nat.succ_ne_self _, Nat.ne_of_lt la, Nat.ne_of_lt (Nat.lt_succ_of_lt la)⟩, fun b hb => I1.fpOk (fp b hb) (I1.hok.fresh (fp b hb)), q⟩
theorem walk_enumT {K : PySem.W.Frag} {a : Addr} {xs : List V} : Walk (IteT K a) xs.length (fun H => SqT K H a xs) (YPair (fun i => some (.int (i : Nat))) (fun i => xs[i]?)) := by
  refine ⟨fun i _ hi q => ⟨xs, xs[i], q, by simp [hi]⟩, fun _ q => ⟨xs, q, rfl⟩, fun i H v H' _ q ⟨T, x, h1, h2, h3, h4⟩ => ⟨T, .int (i : Nat), x, h1, h2, h3, rfl, h4 xs q⟩⟩
theorem enumD_len (ds : List D) : (enumD ds).length = ds.length := by simp [enumD]
def onEn (o : Option (List D)) (L : LS) : Rs (List D) := match o with
  | some ds => .ok (enumD ds) L
  | none => .stuck
def dIEnum (f : DE) : LS → Rs (List D) := fun L => (f L).bind fun r L1 => match fz L1 r with
  | some (d, L2) => onEn (seqOf d) L2
  | none => .stuck
section
variable {X : Cx} {E : XK} {e : Expr} {f : DE}
theorem di_enum {p pos tpos : Pos} {elts : List Expr} {kk : Nat} (hg : Gl X "enumerate") (hm : X.mg "enumerate" = none) (h : DEx X E e f) (hs : starEach [e] X.env = [(false, eval e X.env)] := by rfl) :
    DIx X E (.Tuple elts kk tpos) (.Call (.Name "enumerate" p) [e] [] pos) (dIEnum f) :=
  PI.imp (pi_enumA hg hm (df_cons h df_nil hs) hs) fun σ H R ⟨B, L, G, hK, E0, P⟩ => ⟨B, L, G, hK, E0, by
    have P2 : PostG (relI B.K) B L σ H G ((dFCons f dFNil L).bind fun ds L1 => match ds with | [d] => onEn (seqOf d) L1 | _ => .stuck) R E := by
      have e : ((dFCons f dFNil L).bind fun ds L1 => match ds with | [d] => onEn (seqOf d) L1 | _ => .stuck) = dIEnum f L := by
        unfold dFCons dIEnum
        cases f L with
        | ok r L1 =>
          simp only [Rs.bind_ok]
          cases fz L1 r with
          | none => rfl
          | some z => rfl
        | exc => rfl
        | stuck => rfl
      rw [e]; exact P
    refine PostG.next P2 .refl fun ds L1 vs H1 G1 S1 E1 R1 P1 => ?_
    have R1' : Rps B.K G1 vs ds := R1
    split at P1
    · rename_i d
      cases R1' with | cons r q =>
      cases q
      cases hd : seqOf d with
      | none => rw [hd] at P1; exact P1.elim
      | some es =>
        rw [hd] at P1
        cases d with
        | lst xs =>
          cases hd
          cases r with | lst h1 h2 =>
          refine ⟨_, _, rfl, .inl ⟨.of (E1.sub _ _ h1), ?_⟩⟩
          rw [← hK]
          refine P1 _ H1 G1 S1 E1 (wd_pair ((enumD_len _).trans h2.length.symm) (walk_enum.mono (fun H q => .of (q _ _ h1)) fun _ _ _ _ _ _ y => y) (dx := fun i => some (.int (i : Nat))) (dy := fun i => es[i]?) ?_ ?_ fun i d q => enumD_get q)
          · intro i x d k1 k2; cases k1; cases k2; exact .int _
          · intro i x d k1 k2; obtain ⟨v, k3, k4⟩ := h2.get k2; rw [k1] at k3; cases k3; exact k4
        | tup xs =>
          cases hd
          cases r with | tup h1 h2 =>
          refine ⟨_, _, rfl, .inr ⟨.of (E1.sub _ _ h1), ?_⟩⟩
          rw [← hK]
          refine P1 _ H1 G1 S1 E1 (wd_pair ((enumD_len _).trans h2.length.symm) (walk_enumT.mono (fun H q => .of (q _ _ h1)) fun _ _ _ _ _ _ y => y) (dx := fun i => some (.int (i : Nat))) (dy := fun i => es[i]?) ?_ ?_ fun i d q => enumD_get q)
          · intro i x d k1 k2; cases k1; cases k2; exact .int _
          · intro i x d k1 k2; obtain ⟨v, k3, k4⟩ := h2.get k2; rw [k1] at k3; cases k3; exact k4
        | _ => cases hd
    · exact P1.elim⟩
end
/-! stepping -/
def kIEnum (r : R) (L : LS) : Rs (List D) := match fz L r with
  | some (d, L2) => onEn (seqOf d) L2
  | none => .stuck
theorem n_s_ien (f : DE) (L : LS) : dIEnum f L = (f L).bind kIEnum := rfl
theorem s_kien (d : D) (L : LS) : kIEnum (.v d) L = onEn (seqOf d) L := rfl
theorem s_kient (d : D) (L : LS) : kIEnum (.t d) L = onEn (seqOf d) L := rfl
theorem s_onEnL (ds : List D) (L : LS) : onEn (seqOf (.lst ds)) L = .ok (enumD ds) L := rfl
theorem s_onEnT (ds : List D) (L : LS) : onEn (seqOf (.tup ds)) L = .ok (enumD ds) L := rfl
def kIEnS (i : Nat) (L : LS) : Option Sl → Rs (List D)
  | some (.val d) => onEn (seqOf d) L
  | some (.obj .own d) => onEn (seqOf d) (L.set i (.val d))
  | _ => .stuck
theorem s_kiens (i : Nat) (L : LS) : kIEnum (.s i) L = kIEnS i L L[i]? := by
  unfold kIEnum kIEnS
  simp only [fz]
  cases h : L[i]? with
  | none => rfl
  | some s => cases s with
    | obj m d => cases m <;> rfl
    | _ => rfl
theorem s_kiens1 (i : Nat) (L : LS) (d : D) : kIEnS i L (some (.val d)) = onEn (seqOf d) L := rfl
theorem s_kiens2 (i : Nat) (L : LS) (d : D) : kIEnS i L (some (.obj .own d)) = onEn (seqOf d) (L.set i (.val d)) := rfl
end DV
end
section
set_option Elab.async false
set_option linter.all false
set_option maxRecDepth 100000
set_option maxHeartbeats 4000000
namespace DV
open PySem PySem.Spec PyProof.Rows L2
/-! ### defs that stand under another name, too -/
section
variable {P : Program} {w : World} {K : PySem.W.Frag} {mg : Str → Option Value} {base : Heap}
theorem Callee.mk2 {x y : Str} {st : Stmt} {fd : FuncData} {N ps : List Str} {k : Nat} {ms : List Pm} {g : DS} (F : FunD K y y (defArgs st) (defBody st) (defScope st) [] [] (He.ga K x) fd) (hg : mg x = some (.ref (He.ga K x))) (S : FnScope N ps (defScope st)) (hb : BindP y (defArgs st) (defBody st) (defScope st) ps) (hl : ms.length = ps.length) (hn : ms.length ≤ N.length)
    (hbody : ∀ (cdv : Value) (A : Around) (outer : List Env) (s : Shared) (H : Hp) (E : XK), Room k (A.deeper (envOfC y (defScope st) s.heap.objs.size (He.ga K x) cdv)) → DSsx (cxOf CX0 P w K mg base N y (defScope st) (He.ga K x) cdv A outer s H E).nox E0 (defBody st) g) :
    Callee P w K mg base (k + 1) x ps ms (noExc (runF ms N.length g)) := by
  refine ⟨hg, fd, F.kp, F.bindsN hb, F.ok S (fun vs H Q E h => ?_) (fun cdv A outer s H vs Q E hr h => ⟨_, PSs.nox (hbody cdv A outer s H E hr), ?_⟩), .of F⟩
  · obtain ⟨G, ds, ios, _, A, _⟩ := h
    rw [A.len, hl]
  · refine body_ok hn ?_
    obtain ⟨G, ds, ios, gs, A, nd, P⟩ := h
    refine ⟨G, ds, ios, gs, A, nd, ?_⟩
    unfold noExc at P
    cases q : runF ms N.length g ds with
    | ok fr d outs => rw [q] at P; exact P
    | exc e outs => rw [q] at P; exact P.elim
    | stuck => rw [q] at P; exact P
theorem Callee.zero2 {x y : Str} {st : Stmt} {fd : FuncData} {ps : List Str} {k : Nat} {ms : List Pm} (F : FunD K y y (defArgs st) (defBody st) (defScope st) [] [] (He.ga K x) fd) (hg : mg x = some (.ref (He.ga K x))) (hb : BindP y (defArgs st) (defBody st) (defScope st) ps) : Callee P w K mg base k x ps ms (fun _ => .stuck) :=
  ⟨hg, fd, F.kp, F.bindsN hb, FnOk.none, .of F⟩
end
/-! ### lists of lists that grow: what stands in the heap -/
/-- at p a list of lists of ints, all new against H0 -/
structure Rn (K : PySem.W.Frag) (H0 H : Hp) (p : Addr) (as : List Addr) (rs : List (List Int)) : Prop where
  keep : ∀ a o, H0 a = some o → H a = some o
  own : H p = some (.lst (as.map V.ref))
  new : H0 p = none
  len : as.length = rs.length
  at_ : ∀ (i : Nat) (a : Addr) (r : List Int), as[i]? = some a → rs[i]? = some r → H a = some (.lst (r.map V.int)) ∧ H0 a = none
  nd : as.Nodup
  np : p ∉ as
theorem Rn.grow {K : PySem.W.Frag} {H0 H : Hp} {p q : Addr} {as : List Addr} {rs : List (List Int)} {r : List Int} (h : Rn K H0 H p as rs) (hq : H q = none) : Rn K H0 (upd (upd H q (.lst (r.map V.int))) p (.lst ((as ++ [q]).map V.ref))) p (as ++ [q]) (rs ++ [r]) := by
  have q0 : H0 q = none := by
    cases e : H0 q with
    | none => rfl
    | some o => rw [h.keep q o e] at hq; cases hq
  have pq : p ≠ q := by rintro rfl; rw [h.own] at hq; cases hq
  have nq : q ∉ as := fun m => by
    obtain ⟨i, hi⟩ := List.getElem?_of_mem m
    obtain ⟨hl, _⟩ := List.getElem?_eq_some_iff.mp hi
    have := (h.at_ i q _ hi (List.getElem?_eq_getElem (by rw [← h.len]; exact hl))).1
    rw [hq] at this; cases this
  refine ⟨fun a o e => ?_, upd_same, h.new, by simp [h.len], fun i a r' h1 h2 => ?_, ?_, ?_⟩
  · have ap : a ≠ p := by rintro rfl; rw [h.new] at e; cases e
    have aq : a ≠ q := by rintro rfl; rw [q0] at e; cases e
    rw [upd_ne ap, upd_ne aq]; exact h.keep a o e
  · by_cases c : i < as.length
    · rw [List.getElem?_append_left c] at h1
      rw [List.getElem?_append_left (by rw [← h.len]; exact c)] at h2
      obtain ⟨k1, k2⟩ := h.at_ i a r' h1 h2
      have ap : a ≠ p := fun e => h.np (e ▸ List.mem_of_getElem? h1)
      have aq : a ≠ q := fun e => nq (e ▸ List.mem_of_getElem? h1)
      rw [upd_ne ap, upd_ne aq]; exact ⟨k1, k2⟩
    · have hi := (List.getElem?_eq_some_iff.mp h1).1
      simp only [List.length_append, List.length_cons, List.length_nil] at hi
      have ei : i = as.length := by omega
      subst ei
      rw [List.getElem?_append_right (Nat.le_refl _)] at h1
      rw [List.getElem?_append_right (by rw [h.len]; exact Nat.le_refl _)] at h2
      rw [h.len] at h2
      simp at h1 h2
      subst h1; subst h2
      rw [upd_ne pq.symm, upd_same]; exact ⟨rfl, q0⟩
  · rw [List.nodup_append]
    exact ⟨h.nd, by simp, fun a ha b hb => by simp at hb; subst hb; rintro rfl; exact nq ha⟩
  · simp only [List.mem_append, List.mem_singleton, not_or]; exact ⟨h.np, pq⟩
end DV
end
section
set_option Elab.async false
set_option linter.all false
set_option maxRecDepth 100000
set_option maxHeartbeats 4000000
namespace DV
open PySem PySem.Spec PyProof.Rows L2
/-! ### more steps -/
def kFnK (ms : List Pm) (m : Mir) (is : List Nat) (ds : List D) (L : LS) : Rs R := if decide (ds.length = is.length) = true then S0.onA ms m ((prm is ds).map R.v) L (argD L ms ((prm is ds).map R.v)) else .stuck
theorem callR_onA (ms : List Pm) (m : Mir) (rs : List R) (L : LS) : callR ms m rs L = S0.onA ms m rs L (argD L ms rs) := by
  have := S0.s_fn ms m (fun L => .ok rs L) L
  simpa [dFn] using this
theorem n_s_fnK (ms : List Pm) (m : Mir) (is : List Nat) (as : LS → Rs (List D)) (L : LS) : dFnK ms m is as L = (as L).bind (kFnK ms m is) := by
  unfold dFnK
  cases as L with
  | ok ds L1 => simp only [Rs.bind_ok, callR_onA]; rfl
  | exc => rfl
  | stuck => rfl
theorem prm_nil (l : List D) : prm [] l = [] := rfl
theorem prm_cons (i : Nat) (is : List Nat) (l : List D) : prm (i :: is) l = match l[i]? with
  | some d => d :: prm is l
  | none => prm is l := by
  unfold prm
  rw [List.filterMap_cons]
  cases l[i]? <;> rfl
theorem wl_nil (L : LS) : wipeL L [] = L := rfl
theorem wl_cons (L : LS) (v : Nat) (vs : List Nat) : wipeL L (v :: vs) = (wipeL L vs).set v .un := rfl
/-! data told apart -/
end DV
end
section
set_option Elab.async false
set_option linter.all false
set_option maxRecDepth 100000
set_option maxHeartbeats 4000000
namespace DV
open PySem PySem.Spec PyProof.Rows L2
/-! ### frames: what is made in the tail of a block may be changed there, and is forgotten -/
def enterS : Sl → Sl
  | .val d => .par d
  | .par d => .par d
  | .nst _ ds => .par (.lst ds)
  | .obj (.io k) d => .obj (.io k) d
  | _ => .un
def exitS : Sl → Sl
  | .par d => .val d
  | .bor _ => .un
  | s => s
def Fl.exit : Fl → Fl
  | .nx L => .nx (L.map exitS)
  | .ret r L => .ret r (L.map exitS)
  | .brk L => .brk (L.map exitS)
  | .ct L => .ct (L.map exitS)
  | .exc e L => .exc e (L.map exitS)
  | .stuck => .stuck
def dFrame (g : DS) : DS := fun L => (g (L.map enterS)).exit
section
variable {X : Cx} {E : XK}
theorem exit_at {L : LS} {i : Nat} {s : Sl} (h : (L.map exitS)[i]? = some s) : ∃ t, L[i]? = some t ∧ exitS t = s := by
  rw [List.getElem?_map] at h
  exact Option.map_eq_some_iff.mp h
theorem exit_obj {L : LS} {i : Nat} {m : Md} {d : D} (h : (L.map exitS)[i]? = some (.obj m d)) : L[i]? = some (.obj m d) := by
  obtain ⟨t, h1, h2⟩ := exit_at h
  cases t <;> cases h2 <;> exact h1
theorem EnvOk.exit {B : Bs} {L L' : LS} {σ σ' : St} {H G H' G' : Hp} (E0 : EnvOk B L σ H G) (E1 : EnvOk ⟨B.K, H, G, B.io⟩ L' σ' H' G') : EnvOk B (L'.map exitS) σ' H' G' := by
  have h0 : ∀ a, H a = none → B.H0 a = none := fun a h => by
    cases q : B.H0 a with
    | none => rfl
    | some u => exact absurd h (E0.dom a (some_ne q))
  have g0 : ∀ a, G a = none → B.G0 a = none := fun a h => by
    cases q : B.G0 a with
    | none => rfl
    | some u => rw [E0.old a u q] at h; cases h
  refine ⟨by rw [List.length_map]; exact E1.len, E1.sub, fun a o h => E1.old a o (E0.old a o h), fun a o h => ?_, fun a o h n => E1.keep a o (E0.keep a o h n) n, fun a h => E1.dom a (E0.dom a h), fun i s h => ?_, fun i j m n d e a h1 h2 => E1.inj i j m n d e a (exit_obj h1) (exit_obj h2)⟩
  · rcases E1.new a o h with q | q
    · exact E0.new a o q
    · exact .inr (h0 a q)
  · obtain ⟨t, h1, h2⟩ := exit_at h
    have q := E1.at_ i t h1
    cases t with
    | un => cases h2; trivial
    | val d => cases h2; exact q
    | bor d => cases h2; trivial
    | par d => cases h2; obtain ⟨v, e, r⟩ := q; exact ⟨v, e, r.mono E1.old⟩
    | nst fs ds =>
      cases h2
      obtain ⟨v, e, a, vs, k1, k2, k3, k4, k5, k6⟩ := q
      refine ⟨v, e, a, vs, k1, k2, k3, h0 a k4, g0 a k5, fun k hk => ?_⟩
      obtain ⟨b, ws, j1, j2, j3, j4, j5⟩ := k6 k hk
      exact ⟨b, ws, j1, j2, j3, h0 b j4, g0 b j5⟩
    | obj m d =>
      cases h2
      obtain ⟨a, o, k1, k2, k3, k4, k5⟩ := q
      refine ⟨a, o, k1, k2, k3, k4, ?_⟩
      cases m with
      | own => exact h0 a k5
      | lock => exact h0 a k5
      | io k => exact k5
      | iolock k => exact k5
/-! a slot is known again -/
/-! a new list of what has just been made -/
def nstOf : List R → Option (List Bool × List D)
  | [] => some ([], [])
  | .v d :: rs => (nstOf rs).map fun p => (false :: p.1, d :: p.2)
  | .t (.lst ds) :: rs => (nstOf rs).map fun p => (decide (ds.length ≤ 1000000) :: p.1, .lst ds :: p.2)
  | .t d :: rs => (nstOf rs).map fun p => (false :: p.1, d :: p.2)
  | .s _ :: _ => none
def Fresh1 (B : Bs) (G : Hp) (v : V) : Prop := ∃ (b : Addr) (ws : List V), v = V.ref b ∧ G b = some (.lst ws) ∧ ws.length ≤ 1000000 ∧ B.H0 b = none ∧ B.G0 b = none
theorem Fresh1.mono {B : Bs} {G G' : Hp} (h : GSub G G') {v : V} (k : Fresh1 B G v) : Fresh1 B G' v := by
  obtain ⟨b, ws, h1, h2, h3⟩ := k
  exact ⟨b, ws, h1, h _ _ h2, h3⟩
/-- x = [..], its new lists told -/
def onNst (i : Nat) (L : LS) : Option (List Bool × List D) → Fl
  | some p => if (lenOk p.2.length && decide (i < L.length)) = true then .nx (L.set i (.nst p.1 p.2)) else .stuck
  | none => .stuck
def dAsgN (i : Nat) (as : DA) : DS := fun L => (as L).fl fun rs L1 => onNst i L1 (nstOf rs)
/-- x = f(..), the new list told -/
def onNst1 (i : Nat) (L : LS) : R → Fl
  | .t (.lst ds) => if decide (i < L.length) = true then .nx (L.set i (.nst [] ds)) else .stuck
  | _ => .stuck
def dAsgN1 (i : Nat) (f : DE) : DS := fun L => (f L).fl fun r L1 => onNst1 i L1 r
end
/-! ### what was made in the frame is changed and forgotten -/
def allInts : D → Bool
  | .lst ds => (D.ints ds).isSome
  | _ => false
def resS : Sl → Sl
  | .par d => .par d
  | .obj (.io k) d => if allInts d = true then .obj (.io k) d else .un
  | _ => .un
/-- which part is changed: the list itself, or its item -/
abbrev Tgt := Option Nat
def tgtOk (fs : List Bool) : Tgt → Bool
  | none => true
  | some k => fs[k]? == some true
def dWreck (i : Nat) (ts : List Tgt) (g : DS) : DS := fun L => match L[i]? with
  | some (.nst fs ds) => if (ts.all (tgtOk fs) && decide (ts.length ≤ 100) && lenOk ds.length) = true then g (L.map resS) else .stuck
  | _ => .stuck
/-! stepping -/
theorem n_s_frame (g : DS) (L : LS) : dFrame g L = (g (L.map enterS)).exit := rfl
theorem s_exn (L : LS) : (Fl.nx L).exit = .nx (L.map exitS) := rfl
theorem s_exr (r : R) (L : LS) : (Fl.ret r L).exit = .ret r (L.map exitS) := rfl
def kAsgN (i : Nat) (rs : List R) (L : LS) : Fl := onNst i L (nstOf rs)
theorem n_s_asgN (i : Nat) (as : DA) (L : LS) : dAsgN i as L = (as L).fl (kAsgN i) := rfl
theorem s_onNst (i : Nat) (L : LS) (fs : List Bool) (ds : List D) : onNst i L (some (fs, ds)) = if (lenOk ds.length && decide (i < L.length)) = true then .nx (L.set i (.nst fs ds)) else .stuck := rfl
theorem s_nst0 : nstOf [] = some ([], []) := rfl
theorem s_nstv (d : D) (rs : List R) : nstOf (.v d :: rs) = (nstOf rs).map fun p => (false :: p.1, d :: p.2) := rfl
theorem s_nstl (ds : List D) (rs : List R) : nstOf (.t (.lst ds) :: rs) = (nstOf rs).map fun p => (decide (ds.length ≤ 1000000) :: p.1, .lst ds :: p.2) := rfl
theorem n_s_asgN1 (i : Nat) (f : DE) (L : LS) : dAsgN1 i f L = (f L).fl fun r L1 => onNst1 i L1 r := rfl
theorem s_onNst1 (i : Nat) (L : LS) (ds : List D) : onNst1 i L (.t (.lst ds)) = if decide (i < L.length) = true then .nx (L.set i (.nst [] ds)) else .stuck := rfl
def wrS (ts : List Tgt) (g : DS) (L : LS) : Option Sl → Fl
  | some (.nst fs ds) => if (ts.all (tgtOk fs) && decide (ts.length ≤ 100) && lenOk ds.length) = true then g (L.map resS) else .stuck
  | _ => .stuck
theorem n_s_wreck (i : Nat) (ts : List Tgt) (g : DS) (L : LS) : dWreck i ts g L = wrS ts g L L[i]? := rfl
theorem s_wrS (ts : List Tgt) (g : DS) (L : LS) (fs : List Bool) (ds : List D) : wrS ts g L (some (.nst fs ds)) = if (ts.all (tgtOk fs) && decide (ts.length ≤ 100) && lenOk ds.length) = true then g (L.map resS) else .stuck := rfl
theorem s_en1 (d : D) : enterS (.val d) = .par d := rfl
theorem s_en2 (d : D) : enterS (.par d) = .par d := rfl
theorem s_en3 (fs : List Bool) (ds : List D) : enterS (.nst fs ds) = .par (.lst ds) := rfl
theorem s_en4 (k : Nat) (d : D) : enterS (.obj (.io k) d) = .obj (.io k) d := rfl
theorem s_en5 (d : D) : enterS (.obj .own d) = .un := rfl
theorem s_en6 : enterS .un = .un := rfl
theorem s_ex1 (d : D) : exitS (.par d) = .val d := rfl
theorem s_ex2 (d : D) : exitS (.val d) = .val d := rfl
theorem s_ex3 (fs : List Bool) (ds : List D) : exitS (.nst fs ds) = .nst fs ds := rfl
theorem s_ex4 (m : Md) (d : D) : exitS (.obj m d) = .obj m d := rfl
theorem s_ex5 : exitS .un = .un := rfl
theorem s_re1 (d : D) : resS (.par d) = .par d := rfl
theorem s_re2 (d : D) : resS (.val d) = .un := rfl
theorem s_re3 (fs : List Bool) (ds : List D) : resS (.nst fs ds) = .un := rfl
theorem s_re4 (k : Nat) (d : D) : resS (.obj (.io k) d) = if allInts d = true then .obj (.io k) d else .un := rfl
theorem s_re5 : resS .un = .un := rfl
theorem s_re6 (d : D) : resS (.obj .own d) = .un := rfl
theorem s_tg0 (fs : List Bool) : tgtOk fs none = true := rfl
theorem s_tgk (fs : List Bool) (k : Nat) : tgtOk fs (some k) = (fs[k]? == some true) := rfl
end DV
end
section
set_option Elab.async false
set_option linter.all false
set_option maxRecDepth 100000
set_option maxHeartbeats 4000000
/-! list(range(a, b, -1)) -/
namespace DV
open PySem PySem.Spec PyProof.Rows L2 PySem.W
section
variable {X : Cx} {E : XK} {a b c e : Expr} {fa fb fc : DE} {ta tb tc : TE}
def rgM (a b : Int) : List D := (List.range (a - b).toNat).map fun i => D.int (a - (i : Nat))
def gLRg3 : D → D → D → Option R
  | .int a, .int b, .int c => if (rgEok b a && decide (c = -1)) = true then some (.t (.lst (rgM a b))) else none
  | _, _, _ => none
def on3 (o : Option R) (L : LS) : Rs R := match o with
  | some r => .ok r L
  | none => .stuck
def gLRg3o (x y z : Option D) : Option R := match x, y, z with
  | some d, some e, some f => gLRg3 d e f
  | _, _, _ => none
def dLRg3 (fa fb fc : DE) : DE := fun L => (fa L).bind fun r L1 => (fb L1).bind fun r2 L2 => (fc L2).bind fun r3 L3 => on3 (gLRg3o (peek L3 r) (peek L3 r2) (peek L3 r3)) L3
end
/-! stepping -/
def kLRg33 (r r2 r3 : R) (L : LS) : Rs R := on3 (gLRg3o (peek L r) (peek L r2) (peek L r3)) L
def kLRg32 (fc : DE) (r r2 : R) (L : LS) : Rs R := (fc L).bind (kLRg33 r r2)
def kLRg31 (fb fc : DE) (r : R) (L : LS) : Rs R := (fb L).bind (kLRg32 fc r)
theorem n_s_lrg3 (fa fb fc : DE) (L : LS) : dLRg3 fa fb fc L = (fa L).bind (kLRg31 fb fc) := rfl
theorem s_on3 (r : R) (L : LS) : on3 (some r) L = .ok r L := rfl
theorem s_lrg3o (d e f : D) : gLRg3o (some d) (some e) (some f) = gLRg3 d e f := rfl
end DV
end
section
set_option Elab.async false
set_option linter.all false
set_option maxRecDepth 100000
set_option maxHeartbeats 4000000
/-! `in` over data: a list of data, a list or tuple of flat data -/
namespace DV
open PySem PySem.Spec PyProof.Rows L2 PySem.W
end DV
end
section
set_option Elab.async false
set_option linter.all false
set_option maxRecDepth 100000
set_option maxHeartbeats 4000000
/-! dict comprehensions of whole numbers, locked; keys walked, items looked up -/
namespace DV
open PySem PySem.Spec PyProof.Rows L2 PySem.W
/-! the region grows by a locked dict -/
/-! the comprehension -/
def addK (acc : List (Int × D)) (k : Int) (y : D) : Option (List (Int × D)) := if (lenOk acc.length && acc.all fun p => decide (p.1 ≠ k)) = true then some (acc ++ [(k, y)]) else none
def keyR (L : LS) (r : R) : Option Int := match peek L r with
  | some (.int i) => some i
  | _ => none
def dcK (step : List (Int × D) → LS → Rs (List (Int × D))) (vs : List Nat) (acc : List (Int × D)) (k : Int) : Option (D × LS) → Rs (List (Int × D))
  | some (y, L4) => match addK acc k y with
    | some acc' => step acc' (wipeL L4 vs)
    | none => .stuck
  | none => .stuck
def dcL (vs : List Nat) (t : Tg) (cond : DT) (kel vel : DE) : List D → List (Int × D) → LS → Rs (List (Int × D))
  | [], acc, L => .ok acc L
  | d :: ds, acc, L => match tgSet t d L with
    | none => .stuck
    | some L1 => ((cond L1).wp vs).bind fun b L2 => if b = true then ((kel L2).wp vs).bind fun rk L3 => ((vel L3).wp vs).bind fun r L4 => match keyR L4 rk with
        | some k => dcK (dcL vs t cond kel vel ds) vs acc k (fz L4 r)
        | none => .stuck
      else dcL vs t cond kel vel ds acc (wipeL L2 vs)
def dDC (vs : List Nat) (t : Tg) (fi : LS → Rs (List D)) (cond : DT) (kel vel : DE) : DE := fun L => (fi L).bind fun ds L1 => (dcL vs t cond kel vel ds [] (wipeL L1 vs)).bind fun acc L2 => .ok (.v (.fd acc)) L2
section
variable {X : Cx} {E : XK} {e e2 a b c tg : Expr} {es : List Expr} {st : Stmt} {sts : List Stmt} {pos : Pos} {f fa fb fc : DE} {g h : DS}
/-- the dict as it grows -/
def DkAt (K : PySem.W.Frag) (G : Hp) (vk : List (Key × V)) (acc : List (Int × D)) : Prop := vk.map (·.1) = acc.map (fun p => Sum.inl p.1) ∧ Rps K G (vk.map (·.2)) (acc.map (·.2))
theorem DkAt.mono {K : PySem.W.Frag} {G G' : Hp} (h : ∀ a o, G a = some o → G' a = some o) {vk : List (Key × V)} {acc : List (Int × D)} (q : DkAt K G vk acc) : DkAt K G' vk acc := ⟨q.1, q.2.mono h⟩
theorem DkAt.len {K : PySem.W.Frag} {G : Hp} {vk : List (Key × V)} {acc : List (Int × D)} (q : DkAt K G vk acc) : vk.length = acc.length := by
  have := congrArg List.length q.1
  simpa using this
end
/-! items looked up -/
section
variable {X : Cx} {K : PySem.W.Frag}
def lookI (kvs : List (Int × D)) (i : Int) : Option D := (kvs.find? fun p => decide (p.1 = i)).map (·.2)
theorem RpN.fd {H G : Hp} (sb : ∀ a o, G a = some o → H a = some o) {v : V} {kvs : List (Int × D)} (h : RpN K H G v (.fd kvs)) : ∃ (a : Addr) (o : Obj) (ks : List (Key × V)), v = .ref a ∧ G a = some (.frz o (.dK ks)) ∧ ks.map (·.1) = kvs.map (fun p => Sum.inl p.1) ∧ Rps K G (ks.map (·.2)) (kvs.map (·.2)) := by
  rcases h with h | ⟨a, o, rfl, h1, h2⟩
  · cases h with | fd r e q => exact ⟨_, _, _, rfl, r, e, q⟩
  · cases h2
/-! keys walked -/
def keysD : D → Option (List D)
  | .fd kvs => some (kvs.map fun p => .int p.1)
  | _ => none
def onKy : Option (D × LS) → Rs (List D)
  | some (d, L2) => match keysD d with
    | some ds => .ok ds L2
    | none => .stuck
  | none => .stuck
def dIKeys (f : DE) : LS → Rs (List D) := fun L => (f L).bind fun r L1 => onKy (fz L1 r)
end
/-! stepping -/
def kKy (r : R) (L : LS) : Rs (List D) := onKy (fz L r)
theorem n_s_ikeys (f : DE) (L : LS) : dIKeys f L = (f L).bind kKy := rfl
theorem s_onKy (kvs : List (Int × D)) (L : LS) : onKy (some (.fd kvs, L)) = .ok (kvs.map fun p => .int p.1) L := rfl
def kDcE (acc : List (Int × D)) (L2 : LS) : Rs R := .ok (.v (.fd acc)) L2
def kDC (vs : List Nat) (t : Tg) (cond : DT) (kel vel : DE) (ds : List D) (L1 : LS) : Rs R := (dcL vs t cond kel vel ds [] (wipeL L1 vs)).bind kDcE
theorem n_s_dc (vs : List Nat) (t : Tg) (fi : LS → Rs (List D)) (cond : DT) (kel vel : DE) (L : LS) : dDC vs t fi cond kel vel L = (fi L).bind (kDC vs t cond kel vel) := rfl
theorem lk0 : lenOk 0 = true := rfl
theorem lk1 : lenOk 1 = true := rfl
theorem lk2 : lenOk 2 = true := rfl
theorem lk3 : lenOk 3 = true := rfl
theorem lk4 : lenOk 4 = true := rfl
theorem lk5 : lenOk 5 = true := rfl
theorem lk6 : lenOk 6 = true := rfl
theorem lk7 : lenOk 7 = true := rfl
end DV
end
section
set_option Elab.async false
set_option linter.all false
set_option maxRecDepth 100000
set_option maxHeartbeats 4000000
/-! two items of lists stored in one statement -/
namespace DV
open PySem PySem.Spec PyProof.Rows L2 PySem.W
end DV
end
section
set_option Elab.async false
set_option linter.all false
set_option maxRecDepth 100000
set_option maxHeartbeats 4000000
/-! x = f(..), f given no lists: the lists in what comes back are new -/
namespace DV
open PySem PySem.Spec PyProof.Rows L2 PySem.W
end DV
end
section
set_option Elab.async false
set_option linter.all false
set_option maxRecDepth 100000
set_option maxHeartbeats 4000000
/-! a test that is `a if c else b` -/
namespace DV
open PySem PySem.Spec PyProof.Rows L2 PySem.W
def dIfT (t f g : DT) : DT := fun L => (t L).bind fun b L1 => if b = true then f L1 else g L1
def kIfT (f g : DT) (b : Bool) (L : LS) : Rs Bool := if b = true then f L else g L
theorem n_s_ifT (t f g : DT) (L : LS) : dIfT t f g L = (t L).bind (kIfT f g) := rfl
end DV
end
section
set_option Elab.async false
set_option linter.all false
set_option maxRecDepth 100000
set_option maxHeartbeats 4000000
/-! `x or y` where x is a list: x if it has items, otherwise y -/
namespace DV
open PySem PySem.Spec PyProof.Rows L2 PySem.W
section
variable {X : Cx} {E : XK} {a b : Expr} {pos : Pos} {rest : List Expr}
def dOrL (f g : DE) : DE := fun L => (f L).bind fun r L1 => match peek L1 r with
  | some (.lst ds) => if ds.isEmpty = true then g L1 else .ok r L1
  | _ => .stuck
end
def kOrL (g : DE) (r : R) (L : LS) : Rs R := match peek L r with
  | some (.lst ds) => if ds.isEmpty = true then g L else .ok r L
  | _ => .stuck
theorem n_s_orL (f g : DE) (L : LS) : dOrL f g L = (f L).bind (kOrL g) := rfl
def kOrO (g : DE) (r : R) (L : LS) : Option D → Rs R
  | some (.lst ds) => if ds.isEmpty = true then g L else .ok r L
  | _ => .stuck
theorem s_kOrL (g : DE) (r : R) (L : LS) : kOrL g r L = kOrO g r L (peek L r) := rfl
theorem s_kOrO0 (g : DE) (r : R) (L : LS) : kOrO g r L (some (.lst [])) = g L := rfl
theorem s_kOrO1 (g : DE) (r : R) (L : LS) (d : D) (ds : List D) : kOrO g r L (some (.lst (d :: ds))) = .ok r L := rfl
end DV
end
section
set_option Elab.async false
set_option linter.all false
set_option maxRecDepth 100000
set_option maxHeartbeats 4000000
/-! exceptions: defs that raise, try, what is asked of the caught one -/
namespace DV
open PySem PySem.Spec PyProof.Rows L2 PySem.W
/-! ### the classes -/
def exBase (n : Str) : Str :=
  if n = "Duplicate" ∨ n = "NotFull" ∨ n = "OtherNesting" ∨ n = "BadText" ∨ n = "BadLine" then "ValueError"
  else if n = "NoBox" ∨ n = "NoGap" ∨ n = "NoIndex" ∨ n = "NoNumber" ∨ n = "NoState" then "LookupError"
  else if n = "Closed" ∨ n = "Outer" ∨ n = "Stuck" ∨ n = "Blocked" then "RuntimeError"
  else "OverflowError"
def exField (n : Str) : Str :=
  if n = "Duplicate" then "size" else if n = "NotFull" ∨ n = "NoState" ∨ n = "TooMany" ∨ n = "Full" then "many" else if n = "BadText" then "text" else if n = "BadLine" ∨ n = "NoNumber" then "number"
  else if n = "NoBox" ∨ n = "Outer" ∨ n = "Stuck" then "place" else if n = "NoGap" ∨ n = "Closed" then "gap" else "index"
def exBases : List Str := ["ValueError", "LookupError", "RuntimeError", "OverflowError", "IndexError", "KeyError", "NotImplementedError"]
/-- all of them -/
abbrev XAll : List Str := ["OtherNesting", "Duplicate", "NotFull", "BadText", "BadLine", "NoBox", "NoGap", "NoIndex", "NoNumber", "NoState", "Closed", "Outer", "Stuck", "Blocked", "TooMany", "Full"]
/-- what the module says of the classes named -/
structure ExT (P : Program) (K : PySem.W.Frag) (mg : Str → Option Value) (ns : List Str) : Prop where
  g : ∀ n ∈ ns, mg n = some (.ref (He.ga K n))
  made : ∀ n ∈ ns, n ≠ "OtherNesting" → DVX.ExC1 P K mg (He.ga K n) (exField n)
  made0 : ∀ n ∈ ns, n = "OtherNesting" → DVX.ExC0 P K mg (He.ga K n)
  cls : ∀ n ∈ ns, DVX.ExK K (He.ga K n)
  nof : ∀ n ∈ ns, PySem.W.findIn K (.ref (He.ga K n)) (exField n) = some none
  exm : ∀ n ∈ ns, ∀ c ∈ ns, PySem.W.exmOne K (.ref (He.ga K n)) (.ref (He.ga K c)) = some (decide (n = c))
  kit : ∀ n ∈ ns, ∀ c ∈ ns, PySem.W.kitOne K (.ref (He.ga K n)) (.ref (He.ga K c)) = some (decide (n = c))
  kitB : ∀ n ∈ ns, ∀ b ∈ exBases, PySem.W.kitOne K (.ref (He.ga K n)) (.type b.toString) = some (decide (exBase n = b))
  free : ∀ b ∈ exBases, mg b = none
  dis : ∀ n ∈ ns, n ∉ exBases
/-! ### defs that raise -/
section
variable {X : Cx} {E : XK} {e : Expr} {es : List Expr} {pos p : Pos} {k : Nat} {x : Str} {ps : List Str} {ms : List Pm} {m : Mir} {as : DA}
/-! ### raise -/
def dRaise (n f : Str) (fe : DE) : DS := fun L => (fe L).fl fun r L1 => match fz L1 r with
  | some (d, L2) => .exc ⟨n, [(f, d)]⟩ L2
  | none => .stuck
end
/-! ### a class named and called: the exception as a value -/
def dMkX (n f : Str) (fe : DE) : DE := fun L => (fe L).bind fun r L1 => match fz L1 r with
  | some (d, L2) => .ok (.v (.exn n [(f, d)])) L2
  | none => .stuck
def dMkX0 (n : Str) : DE := fun L => .ok (.v (.exn n [])) L
section
variable {X : Cx} {E : XK} {e : Expr} {pos p : Pos} {k : Nat} {n f : Str} {fe : DE}
theorem tMk_of {σ : L2.St} {H : Hp} {Q : VK} (h : tD X.K E (dMkX n f fe) σ H Q) : DVX.tMk (He.ga X.K n) f (tD X.K E fe) σ H Q := by
  obtain ⟨B, L, G, hK, E0, P⟩ := h
  refine ⟨B, L, G, hK, E0, PostG.next P .refl fun r L1 v H1 G1 S1 E1 R1 P1 d a hd ha => ?_⟩
  split at P1
  · rename_i dd L2 q
    obtain ⟨G2, S2, E2, r2, gs2⟩ := fz_ok2 E0 E1 S1 R1 q
    obtain ⟨E3, S3, g3, gk⟩ := E2.laidG (o := .xd [(f, v)]) hd
    obtain ⟨E4, S4, g4, gk4⟩ := E3.laidG (o := DVX.CauO (.ref (He.ga X.K n)) (some d) a) ha
    refine P1 _ _ _ ((S2.trans S3).trans S4) E4 ?_
    show Rp B.K _ _ _
    rw [hK] at r2 ⊢
    exact .exn1 g4 (gk4 _ _ g3) rfl (.cons ((r2.mono gk).mono gk4) .nil)
  · exact P1.elim
theorem de_mkX (T : DVX.ExC1 X.prog X.K X.mg (He.ga X.K n) f) (hr : Room (k + 1) X.A) (hg : Gl X n) (hm : X.mg n = some (.ref (He.ga X.K n))) (he : DEx X E e fe) (hdb : (n == ("__debug__" : Str)) = false := by decide)
    (hs : starEach [e] X.env = (false, eval e X.env) :: starEach [] X.env := by rfl) : DEx X E (.Call (.Name n p) [e] [] pos) (dMkX n f fe) :=
  PE.imp (DVX.pe_mkX T hr hg hm he hdb hs) fun _ _ _ h => tMk_of h
theorem de_mkXK {nm : Option Str} {kpos : Pos} (T : DVX.ExC1 X.prog X.K X.mg (He.ga X.K n) f) (hr : Room (k + 1) X.A) (hg : Gl X n) (hm : X.mg n = some (.ref (He.ga X.K n))) (he : DEx X E e fe)
    (hall : (backToKw pos (keywordEach [⟨nm, e, kpos⟩] X.env)).all (·.1.isSome) = true := by rfl) (hks : (backToKw pos (keywordEach [⟨nm, e, kpos⟩] X.env)).filterMap (·.1) = [f] := by rfl)
    (hdb : (n == ("__debug__" : Str)) = false := by decide) (hpl : ((backTo pos (starEach [] X.env)).any (·.1) || (backToKw pos (keywordEach [⟨nm, e, kpos⟩] X.env)).any (·.1.isNone)) = false := by rfl) :
    DEx X E (.Call (.Name n p) [] [⟨nm, e, kpos⟩] pos) (dMkX n f fe) :=
  PE.imp (DVX.pe_mkXK T hr hg hm he hall hks hdb hpl) fun _ _ _ h => tMk_of h
theorem de_mkX0 (T : DVX.ExC0 X.prog X.K X.mg (He.ga X.K n)) (hr : Room (k + 1) X.A) (hg : Gl X n) (hm : X.mg n = some (.ref (He.ga X.K n))) (hdb : (n == ("__debug__" : Str)) = false := by decide) :
    DEx X E (.Call (.Name n p) [] [] pos) (dMkX0 n) :=
  PE.imp (DVX.pe_mkX0 T hr hg hm hdb) fun σ H Q ⟨B, L, G, hK, E0, P⟩ a ha => by
    obtain ⟨E4, S4, g4, gk4⟩ := E0.laidG (o := DVX.CauO (.ref (He.ga X.K n)) none a) ha
    refine P _ _ _ S4 E4 ?_
    show Rp B.K _ _ _
    rw [hK]
    exact .exn0 g4
/-- raise C() -/
def dRaise0 (n : Str) : DS := fun L => .exc ⟨n, []⟩ L
end
/-! ### try: the body gives one name a value, or raises ahead of that -/
section
variable {X : Cx} {W : WX} {e a b c : Expr} {es : List Expr} {pos p : Pos} {k i : Nat} {x : Str} {ps : List Str} {ms : List Pm} {m : Mir} {as : DA} {f fa fb : DE} {t : DT}
def putL (i : Option Nat) (L : LS) (d : D) : LS := match i with
  | some i => L.set i (.val d)
  | none => L
end
def dTry (i : Option Nat) (ic ie : Nat) (f : DE) (cs : List Str) : DS := fun L => match f L with
  | .ok (.v d) L1 => .nx (putL i L1 d)
  | .exc e L1 => if (cs.contains e.cls && decide (ie < L1.length)) = true then .nx (((L1.set ie (.val (.exn e.cls e.fs))).set ic (.val (.exn e.cls e.fs))).set ie .un) else .stuck
  | _ => .stuck
/-! ### what is asked of the caught one -/
def subEx (n c : Str) : Bool := decide (n = c) || decide (exBase n = c)
theorem exBase_in (n : Str) : exBase n ∈ exBases := by
  unfold exBase exBases
  split
  · simp
  · split
    · simp
    · split <;> simp
/-- a class, named in an expression -/
def ClsE (X : Cx) (ns : List Str) (e : Expr) (c : Str) : Prop := ∃ (v : V) (cv : Value), PE X e (tC v) ∧ (∀ u, RelV v u → u = cv) ∧ ∀ n ∈ ns, PySem.W.kitOne X.K (.ref (He.ga X.K n)) cv = some (subEx n c)
section
variable {X : Cx} {E : XK} {pos p p2 : Pos} {ns ms : List Str} {c : Str} {a ce : Expr} {f : DE}
theorem clsE_own (T : ExT X.prog X.K X.mg ns) (hc : c ∈ ns) (hg : Gl X c) (hd : (c == ("__debug__" : Str)) = false := by decide) : ClsE X ns (.Name c p) c := by
  refine ⟨.ref (He.ga X.K c), .ref (He.ga X.K c), pe_glob hg (T.g c hc) rfl hd, fun u r => r, fun n hn => ?_⟩
  have : exBase n ≠ c := fun z => T.dis c hc (z ▸ exBase_in n)
  rw [T.kit n hn c hc]
  unfold subEx
  rw [decide_eq_false this, Bool.or_false]
theorem clsE_base (T : ExT X.prog X.K X.mg ns) (hc : c ∈ exBases) (hg : Gl X c) (hv : bootBuiltins c = some (.type c.toString)) (hd : (c == ("__debug__" : Str)) = false := by decide) (hnn : c ≠ "__name__" := by decide) : ClsE X ns (.Name c p) c := by
  refine ⟨.ty c.toString, .type c.toString, pe_bltn hg (T.free c hc) hv rfl hnn hd, fun u r => r, fun n hn => ?_⟩
  have : n ≠ c := fun z => T.dis n hn (z ▸ hc)
  rw [T.kitB n hn c hc]
  unfold subEx
  rw [decide_eq_false this, Bool.false_or]
theorem RpN.exn {K : PySem.W.Frag} {H G : Hp} (sb : ∀ a o, G a = some o → H a = some o) {v : V} {n : Str} {fs : List (Str × D)} (h : RpN K H G v (.exn n fs)) : ∃ a dx, v = .ref a ∧ DVX.ToldX H a (He.ga K n) dx ∧
    ((dx = none ∧ fs = []) ∨ ∃ dd fvs, dx = some dd ∧ H dd = some (.xd fvs) ∧ fvs.map (·.1) = fs.map (·.1) ∧ Rps K G (fvs.map (·.2)) (fs.map (·.2))) := by
  rcases h with h | ⟨a, o, rfl, h1, h2⟩
  · cases h with
    | exn0 g => exact ⟨_, none, rfl, ⟨sb _ _ g, fun dd z => by cases z⟩, .inl ⟨rfl, rfl⟩⟩
    | exn1 g1 g2 g3 g4 => exact ⟨_, some _, rfl, ⟨sb _ _ g1, fun dd z => by cases z; exact ⟨_, sb _ _ g2⟩⟩, .inr ⟨_, _, rfl, sb _ _ g2, g3, g4⟩⟩
  · cases h2
/-- isinstance(e, c): ns the classes that e's class is among -/
def dIsX (ns : List Str) (f : DE) (cs : List Str) : DE := fun L => (f L).bind fun r L1 => match peek L1 r with
  | some (.exn n _) => if ns.contains n = true then .ok (.v (.bl (cs.any (subEx n)))) L1 else .stuck
  | _ => .stuck
theorem de_isX (T : ExT X.prog X.K X.mg ms) (hms : ∀ n ∈ ns, n ∈ ms) (hg : Gl X "isinstance") (hm : X.mg "isinstance" = none) (ha : DEx X E a f) (hc : ClsE X ms ce c)
    (hs : starEach [a, ce] X.env = (false, eval a X.env) :: starEach [ce] X.env := by rfl) (hs2 : starEach [ce] X.env = (false, eval ce X.env) :: starEach [] X.env := by rfl) (hpl : (backTo pos (starEach [ce] X.env)).any (·.1) = false := by rfl) :
    DEx X E (.Call (.Name "isinstance" p) [a, ce] [] pos) (dIsX ns f [c]) := by
  obtain ⟨v, cv, h1, h2, h3⟩ := hc
  refine PE.imp (pe_callB DVX.call_isX hg hm PyProof.Rows.Boot.«isinstance» (pa_cons ha (pa_cons h1 pa_nil hs2) hs) (by decide) (by decide) hs hpl) fun σ H Q ⟨B, L, G, hK, E0, P⟩ => ?_
  refine ⟨B, L, G, hK, E0, PostG.next P .refl fun r1 L1 v1 H1 G1 S1 E1 R1 P1 => ?_⟩
  show DVX.rIsX X.K [v1, v] H1 Q
  split at P1
  · rename_i n fs q
    split at P1
    · rename_i hn
      have hn : n ∈ ms := hms n (by simpa using hn)
      obtain ⟨ad, dx, rfl, t, _⟩ := (peek_ok E1 R1 q).exn E1.sub
      rw [hK] at t
      refine ⟨ad, _, dx, v, cv, subEx n c, rfl, h2, t, T.cls n hn, h3 n hn, ?_⟩
      have := P1 (.bl (subEx n c)) H1 G1 S1 E1 (by simp only [List.any_cons, List.any_nil, Bool.or_false]; exact .bl _)
      exact this
    · exact P1.elim
  · exact P1.elim
/-- .. a tuple of classes -/
inductive ClsL (X : Cx) (ns : List Str) : List Expr → List Str → Prop
  | nil : ClsL X ns [] []
  | cons {e : Expr} {c : Str} {es : List Expr} {cs : List Str} : ClsE X ns e c → starEach (e :: es) X.env = (false, eval e X.env) :: starEach es X.env → ClsL X ns es cs → ClsL X ns (e :: es) (c :: cs)
def tVals (vs : List V) : TA := fun _ H Q => Q vs H
theorem clsL_ok {es : List Expr} {cs : List Str} (h : ClsL X ns es cs) : ∃ vs, PA X es (tVals vs) ∧ vs.length = cs.length ∧ ∀ n ∈ ns, ∀ us, Vals vs us → PySem.W.kitAny X.K (.ref (He.ga X.K n)) us = some (cs.any (subEx n)) := by
  induction h with
  | nil => exact ⟨[], pa_nil, rfl, fun n _ us r => by cases r; rfl⟩
  | @cons e c es cs hc hs hr ih =>
    obtain ⟨v, cv, h1, h2, h3⟩ := hc
    obtain ⟨vs, i1, i2, i3⟩ := ih
    refine ⟨v :: vs, pa_cons h1 i1 hs, by rw [List.length_cons, List.length_cons, i2], fun n hn us r => ?_⟩
    cases r with
    | cons r1 r2 =>
      have := h2 _ r1
      subst this
      unfold PySem.W.kitAny
      rw [h3 n hn, List.any_cons]
      cases subEx n c with
      | true => rfl
      | false => exact i3 n hn _ r2
theorem de_isXT {es : List Expr} {cs : List Str} {kk : Nat} {tp : Pos} (T : ExT X.prog X.K X.mg ms) (hms : ∀ n ∈ ns, n ∈ ms) (hg : Gl X "isinstance") (hm : X.mg "isinstance" = none) (ha : DEx X E a f) (hc : ClsL X ms es cs) (hl : cs.length ≤ 1000)
    (hs : starEach [a, .Tuple es kk tp] X.env = (false, eval a X.env) :: starEach [.Tuple es kk tp] X.env := by rfl) (hs2 : starEach [.Tuple es kk tp] X.env = (false, eval (.Tuple es kk tp) X.env) :: starEach [] X.env := by rfl) (hpl : (backTo pos (starEach [.Tuple es kk tp] X.env)).any (·.1) = false := by rfl) :
    DEx X E (.Call (.Name "isinstance" p) [a, .Tuple es kk tp] [] pos) (dIsX ns f cs) := by
  obtain ⟨vs, h1, h2, h3⟩ := clsL_ok hc
  refine PE.imp (pe_callB DVX.call_isXT hg hm PyProof.Rows.Boot.«isinstance» (pa_cons ha (pa_cons (pe_tup h1) pa_nil hs2) hs) (by decide) (by decide) hs hpl) fun σ H Q ⟨B, L, G, hK, E0, P⟩ => ?_
  refine ⟨B, L, G, hK, E0, PostG.next P .refl fun r1 L1 v1 H1 G1 S1 E1 R1 P1 => ?_⟩
  split at P1
  · rename_i n fs q
    split at P1
    · rename_i hn
      have hn : n ∈ ms := hms n (by simpa using hn)
      obtain ⟨ad, dx, rfl, t, _⟩ := (peek_ok E1 R1 q).exn E1.sub
      rw [hK] at t
      refine ⟨by rw [h2, sizeLine_eq]; omega, fun tpa htp => ?_⟩
      obtain ⟨E2, S2, _⟩ := E1.laid (o := .tup vs) htp
      have ne : ∀ {b : Addr} {o : HO}, H1 b = some o → upd H1 tpa (.tup vs) b = some o := fun {b o} z => upd_keep htp b o z
      exact ⟨ad, _, tpa, dx, vs, cs.any (subEx n), rfl, ⟨ne t.1, fun dd z => by obtain ⟨fs, y⟩ := t.2 dd z; exact ⟨fs, ne y⟩⟩, T.cls n hn, upd_same, h3 n hn, P1 _ _ G1 (S1.trans S2) E2 (.bl _)⟩
    · exact P1.elim
  · exact P1.elim
/-- e.f -/
def dXf (ns : List Str) (f : DE) (at_ : Str) : DE := fun L => (f L).bind fun r L1 => match peek L1 r with
  | some (.exn n [(g, d)]) => if (ns.contains n && (decide (g = at_) && decide (exField n = at_))) = true then .ok (.v d) L1 else .stuck
  | _ => .stuck
theorem de_xf {at_ : Str} (T : ExT X.prog X.K X.mg ms) (hms : ∀ n ∈ ns, n ∈ ms) (ha : DEx X E a f) (hb : attributeBase a at_ X.env (eval a X.env) = eval a X.env := by rfl) : DEx X E (.Attribute a at_ pos) (dXf ns f at_) :=
  PE.imp (DVX.pe_xfd ha hb) fun σ H Q ⟨B, L, G, hK, E0, P⟩ => ⟨B, L, G, hK, E0, PostG.next P .refl fun r1 L1 v1 H1 G1 S1 E1 R1 P1 => by
    split at P1
    · rename_i n g d q
      split at P1
      · rename_i hn
        rw [Bool.and_eq_true, Bool.and_eq_true, decide_eq_true_iff, decide_eq_true_iff] at hn
        obtain ⟨hn, rfl, hg⟩ := hn
        have hn : n ∈ ms := hms n (by simpa using hn)
        obtain ⟨ad, dx, rfl, t, z⟩ := (peek_ok E1 R1 q).exn E1.sub
        rw [hK] at t
        rcases z with ⟨_, z⟩ | ⟨dd, fvs, rfl, k1, k2, k3⟩
        · cases z
        · cases fvs with
          | nil => cases k2
          | cons fv fr =>
            obtain ⟨fn, fx⟩ := fv
            cases fr with
            | cons _ _ => cases k2
            | nil =>
              simp only [List.map_cons, List.map_nil, List.cons.injEq, and_true] at k2 k3
              subst k2
              cases k3 with
              | cons r3 _ =>
                refine ⟨ad, _, dd, [(fn, fx)], fx, rfl, t.1, k1, T.cls n hn, by rw [← hg]; exact T.nof n hn, by simp [List.lookup], P1 _ H1 G1 S1 E1 r3⟩
      · exact P1.elim
    · exact P1.elim⟩
end
end DV
end
section
set_option Elab.async false
set_option linter.all false
set_option maxRecDepth 100000
set_option maxHeartbeats 4000000
/-! the classes of exceptions, read off the heap -/
namespace DVX
open PySem PySem.Spec PyProof.Rows L2 PySem.W
inductive XB where | v | l | r | o
def XB.n : XB → String
  | .v => "ValueError" | .l => "LookupError" | .r => "RuntimeError" | .o => "OverflowError"
def XB.nw : XB → String
  | .v => "ValueError.__new__" | .l => "LookupError.__new__" | .r => "RuntimeError.__new__" | .o => "OverflowError.__new__"
def XB.ii : XB → String
  | .v => "ValueError.__init__" | .l => "LookupError.__init__" | .r => "RuntimeError.__init__" | .o => "OverflowError.__init__"
def XB.bm : XB → List Value
  | .v => [.type "ValueError", .type "Exception", .type "BaseException", .type "object"]
  | .l => [.type "LookupError", .type "Exception", .type "BaseException", .type "object"]
  | .r => [.type "RuntimeError", .type "Exception", .type "BaseException", .type "object"]
  | .o => [.type "OverflowError", .type "ArithmeticError", .type "Exception", .type "BaseException", .type "object"]
theorem XB.FB : ∀ b : XB, ExcBaseFacts b.n b.nw b.ii b.bm
  | .v => PySem.F.excBase_ValueError | .l => PySem.F.excBase_LookupError | .r => PySem.F.excBase_RuntimeError | .o => PySem.F.excBase_OverflowError
theorem XB.KF : ∀ b : XB, KxsFacts b.n b.ii
  | .v => kxs_ValueError | .l => kxs_LookupError | .r => kxs_RuntimeError | .o => kxs_OverflowError
theorem XB.SF : ∀ b : XB, StoreFacts b.n b.bm "object.__setattr__" "object"
  | .v => PySem.F.store_ValueError | .l => PySem.F.store_LookupError | .r => PySem.F.store_RuntimeError | .o => PySem.F.store_OverflowError
/-- one class: its name, base, field; its __init__: qualified name, parameters, body, scope -/
structure XD where
  name : Str
  b : XB
  f : Str
  qual : Str
  params : Arguments
  body : List Stmt
  scope : Scope
abbrev XW : Type := Option (Str × Str × Arguments × FuncBody × Scope × Addr × List Str × Addr)
def xIni (K : Frag) (d : XD) : Addr := He.ma K (He.ga K d.name) "__init__"
def xW (K : Frag) (d : XD) : XW := match K.lookup (xIni K d) with
  | some ⟨_, _, .func fd, _⟩ => some (fd.name, fd.qualname, fd.params, fd.body, fd.scope, fd.globals, fd.closure.map (·.1), fd.builtins)
  | _ => none
def XD.val (d : XD) : XW := some ("__init__", d.qual, d.params, .stmts d.body, d.scope, mainGlobals, ["__class__"], builtinsNs)
/-- the cell, the code of the __init__ -/
def cellB (K : Frag) (C a : Addr) : Bool := match K.lookup a with
  | some ⟨_, _, .cell (some (.ref c)), _⟩ => decide (c = C)
  | _ => false
def codeB (K : Frag) (q file : Str) : Value → Bool
  | .ref a => codeIn K (.ref a) q && (match K.lookup a with
    | some ⟨_, _, .fields vs, _⟩ => (match (vs[2]? : Option Value) with
      | some (.str x _) => decide (x = file)
      | _ => false)
    | _ => false)
  | _ => false
def clB (K : Frag) (C : Addr) : List (Str × Addr) → Bool
  | [(_, a)] => cellB K C a
  | _ => false
def iniB (K : Frag) (file : Str) (d : XD) : Bool := match K.lookup (xIni K d) with
  | some ⟨_, _, .func fd, _⟩ => clB K (He.ga K d.name) fd.closure && (codeB K d.qual file fd.code && decide (fd.defaults = .none))
  | _ => false
def XD.ok (K : Frag) (file : Str) (d : XD) : Bool :=
  let C := He.ga K d.name
  [excInitIn K C d.b.bm d.b.nw, decide (nsIn K cStatics "thirdparty.any" = some none), decide (ks_superIn K C C "__init__" = some (some (.builtin d.b.ii))), decide (subIn K (.ref C) (.type d.b.n) = some true),
   decide (findIn K (.ref C) "__setattr__" = some (some (.builtin "object.__setattr__"))), excOver K C d.b.bm, hasDictIn K C, decide (mroIn K C (.ref C) = some true), (clsIn K C).isSome,
   decide (findIn K (.ref C) "__init__" = some (some (.ref (xIni K d)))), decide (typeIn K (.ref (xIni K d)) = some (.type "function")), iniB K file d, decide (takerIn K C d.f = some none), keepIn K (.ref C), decide (subIn K (.ref C) (.type "BaseException") = some true), decide (typeIn K (.ref C) = some (.type "type")),
   decide (findIn K (.ref C) "__getattribute__" = some (some (.builtin "BaseException.__getattribute__"))), decide (findIn K (.ref C) "__getattr__" = some none), decide (findIn K (.ref C) "__class__" = some (some (.builtin "object.__class__"))), decide (specialIn K (.builtin "object.__class__") "__get__" = some (some (.builtin "getset_descriptor.__get__"))),
   decide (takesIn K (.builtin "object.__class__") = some true), decide (mroIn K C (.type "object") = some true), decide (findIn K (.ref C) d.f = some none)].all id
def pairB (K : Frag) (xs : List XD) : Bool := xs.all fun d => (xs.all fun e => decide (exmOne K (.ref (He.ga K d.name)) (.ref (He.ga K e.name)) = some (decide (d.name = e.name))) && decide (kitOne K (.ref (He.ga K d.name)) (.ref (He.ga K e.name)) = some (decide (d.name = e.name)))) &&
  DV.exBases.all fun b => decide (kitOne K (.ref (He.ga K d.name)) (.type b.toString) = some (decide (DV.exBase d.name = b)))
/-- what the text alone says of such a class -/
def XD.txt (prog : Program) (file : Str) (d : XD) : Prop := ∃ (txt : Str) (p0 p1 p2 p3 p4 p5 p6 p7 p8 p9 : Pos) (j : Nat) (ar : Arg),
  d.body = [iniS txt p0 p1 p2 p3 p4 p5 j, iniF d.f p6 p7 p8 p9] ∧ (d.params.posonlyargs ++ d.params.args).head? = some ar ∧ ar.arg = "self" ∧ ((prog.main.file : Str) == file) = true ∧ (prog.main.scope.names.lookup ("super" : Str)).isSome = false ∧
  d.scope.names.lookup ("super" : Str) = some .globalImplicit ∧ d.scope.names.lookup ("__class__" : Str) = some .free ∧ d.scope.names.lookup ("self" : Str) = some .local ∧ d.scope.names.lookup d.f = some .local ∧ (d.f == ("self" : Str)) = false ∧ (d.f == ("__debug__" : Str)) = false ∧
  d.scope.kind = .function ∧ (∀ x ∈ d.scope.names, x.2 ≠ .cell) ∧ d.scope.isCoroutine = false ∧ d.scope.isGenerator = false ∧
  (∀ (fI cc cda L : Addr), ∃ pl, eval (.Call (.Attribute (.Call (.Name "super" p0) [] [] p1) "__init__" p2) [.Constant (.str txt) j p3] [] p4) (ksEnv d.qual d.scope L fI (.ref cda) cc) = (do
      let ov ← attributeBase (.Call (.Name "super" p0) [] [] p1) "__init__" (ksEnv d.qual d.scope L fI (.ref cda) cc) (eval (.Call (.Name "super" p0) [] [] p1) (ksEnv d.qual d.scope L fI (.ref cda) cc))
      standAt p2.atName
      let (f, first) ← holding [ov] (getMethod ov "__init__" pl)
      callWith p4 f first (backTo p4 (starEach [.Constant (.str txt) j p3] (ksEnv d.qual d.scope L fI (.ref cda) cc))) [])) ∧
  (∀ (fI cc cda L : Addr), swapsWith (.Name d.f p8) (some (.Attribute (.Name "self" p6) d.f p7)) p9.line (ksEnv d.qual d.scope L fI (.ref cda) cc) = pure false) ∧
  (∀ (cc cda : Addr) (kV doc pm : Value) (an : Option Addr) (ct a b : Value), bindArgs (ksFn "__init__" d.qual d.params d.body d.scope .none kV doc pm an (.ref cda) ct cc) ⟨[a, b], []⟩ = pure [(("self" : Str), a), (d.f, b)]) ∧
  (∀ (cc cda : Addr) (kV doc pm : Value) (an : Option Addr) (ct a b : Value), bindArgs (ksFn "__init__" d.qual d.params d.body d.scope .none kV doc pm an (.ref cda) ct cc) ⟨[a], [(d.f, b)]⟩ = pure [(("self" : Str), a), (d.f, b)])
/-- .. of the class without a field -/
def XD.txt0 (prog : Program) (file : Str) (d : XD) : Prop := ∃ (txt : Str) (p0 p1 p2 p3 p4 p5 : Pos) (j : Nat) (ar : Arg),
  d.body = [iniS txt p0 p1 p2 p3 p4 p5 j] ∧ (d.params.posonlyargs ++ d.params.args).head? = some ar ∧ ar.arg = "self" ∧ ((prog.main.file : Str) == file) = true ∧ (prog.main.scope.names.lookup ("super" : Str)).isSome = false ∧
  d.scope.names.lookup ("super" : Str) = some .globalImplicit ∧ d.scope.names.lookup ("__class__" : Str) = some .free ∧ d.scope.names.lookup ("self" : Str) = some .local ∧
  d.scope.kind = .function ∧ (∀ x ∈ d.scope.names, x.2 ≠ .cell) ∧ d.scope.isCoroutine = false ∧ d.scope.isGenerator = false ∧
  (∀ (fI cc cda L : Addr), ∃ pl, eval (.Call (.Attribute (.Call (.Name "super" p0) [] [] p1) "__init__" p2) [.Constant (.str txt) j p3] [] p4) (ksEnv d.qual d.scope L fI (.ref cda) cc) = (do
      let ov ← attributeBase (.Call (.Name "super" p0) [] [] p1) "__init__" (ksEnv d.qual d.scope L fI (.ref cda) cc) (eval (.Call (.Name "super" p0) [] [] p1) (ksEnv d.qual d.scope L fI (.ref cda) cc))
      standAt p2.atName
      let (f, first) ← holding [ov] (getMethod ov "__init__" pl)
      callWith p4 f first (backTo p4 (starEach [.Constant (.str txt) j p3] (ksEnv d.qual d.scope L fI (.ref cda) cc))) [])) ∧
  (∀ (cc cda : Addr) (kV doc pm : Value) (an : Option Addr) (ct a : Value), bindArgs (ksFn "__init__" d.qual d.params d.body d.scope .none kV doc pm an (.ref cda) ct cc) ⟨[a], []⟩ = pure [(("self" : Str), a)])
section
variable {K : Frag} {prog : Program} {mg : Str → Option Value} {file : Str} {d : XD}
theorem XD.made (t : d.txt prog file) (e : xW K d = d.val) (c : d.ok K file = true) (hs : mg "super" = none) : ExC1 prog K mg (He.ga K d.name) d.f ∧ ExK K (He.ga K d.name) ∧ findIn K (.ref (He.ga K d.name)) d.f = some none := by
  unfold XD.ok at c
  simp only [List.all_cons, List.all_nil, id, Bool.and_true, Bool.and_eq_true, decide_eq_true_eq] at c
  obtain ⟨c1, c2, c3, c4, c5, c6, c7, c8, c9, c10, c11, c12, c13, c14, c15, c16, c17, c18, c19, c20, c21, c22, c23⟩ := c
  refine ⟨⟨?_, c14, c15, c16⟩, ⟨c9, c17, c18, c15, c7, c19, c20, c21, c22⟩, c23⟩
  obtain ⟨txt, p0, p1, p2, p3, p4, p5, p6, p7, p8, p9, j, ar, t1, t2, t3, t4, t5, t6, t7, t8, t9, t10, t11, t12, t13, t14, t15, t16, t17, t18, t19⟩ := t
  unfold iniB at c12
  unfold xW at e
  cases q : K.lookup (xIni K d) with
  | none =>
    rw [q] at c12
    cases c12
  | some o =>
    obtain ⟨oc, od, dt, osl⟩ := o
    rw [q] at c12 e
    cases dt with
    | func fd =>
      obtain ⟨n1, n2, n3, n4, n5, n6, n7, n8, n9, n10, n11, n12, n13, n14, n15⟩ := fd
      have e2 : (some (n1, n2, n3, n4, n5, n6, n7.map (·.1), n15) : XW) = some (("__init__" : Str), d.qual, d.params, FuncBody.stmts d.body, d.scope, mainGlobals, [("__class__" : Str)], builtinsNs) := e
      simp only [Option.some.injEq, Prod.mk.injEq] at e2
      obtain ⟨h1, h2, h3, h4, h5, h6, h7, h8⟩ := e2
      subst h1 h2 h3 h4 h5 h6 h8
      obtain ⟨k1, k20⟩ := He.ba (show (clB K (He.ga K d.name) n7 && (codeB K d.qual file n13 && decide (n8 = .none))) = true from c12)
      obtain ⟨k2, kd⟩ := He.ba k20
      have kd : n8 = .none := of_decide_eq_true kd
      subst kd
      cases n7 with
      | nil => cases h7
      | cons p r =>
        obtain ⟨x, cc⟩ := p
        cases r with
        | cons _ _ => cases h7
        | nil =>
          simp only [List.map_cons, List.map_nil, List.cons.injEq, and_true] at h7
          subst h7
          have k3 : cellB K (He.ga K d.name) cc = true := k1
          unfold cellB at k3
          cases qc : K.lookup cc with
          | none => rw [qc] at k3; cases k3
          | some o =>
            obtain ⟨cl, cld, cdt, csl⟩ := o
            rw [qc] at k3
            cases cdt with
            | cell w =>
              cases w with
              | none => cases k3
              | some w =>
                cases w with
                | ref c =>
                  have ec : c = He.ga K d.name := of_decide_eq_true k3
                  subst ec
                  cases n13 with
                  | ref cda =>
                    obtain ⟨k4, k5⟩ := He.ba (show (codeIn K (.ref cda) d.qual && (match K.lookup cda with
                      | some ⟨_, _, .fields vs, _⟩ => (match (vs[2]? : Option Value) with
                        | some (.str x _) => decide (x = file)
                        | _ => false)
                      | _ => false)) = true from k2)
                    cases qd : K.lookup cda with
                    | none => rw [qd] at k5; cases k5
                    | some o =>
                      obtain ⟨ccl, cdd, ddt, ccs⟩ := o
                      rw [qd] at k5
                      cases ddt with
                      | fields vs =>
                        simp only at k5
                        cases qv : vs[2]? with
                        | none => rw [qv] at k5; cases k5
                        | some u =>
                          rw [qv] at k5
                          cases u with
                          | str x tf =>
                            have ex : x = file := of_decide_eq_true k5
                            subst ex
                            refine ⟨d.b.n, d.b.ii, d.b.nw, d.b.bm, xIni K d, cc, cda, d.qual, txt, x, d.params, d.scope, p0, p1, p2, p3, p4, p5, p6, p7, p8, p9, j, ar,
                              { T := ⟨d.b.FB, d.b.KF, d.b.SF, c1, c2, c3, c4, c5, c6, c7, c8, c9⟩, hi := c10, ty := c11, fn := ?_, code := ⟨ccl, cdd, vs, ccs, tf, qd, qv⟩, cell := ⟨cl, cld, csl, qc⟩, cd := k4, hp := t2, har := t3, file_ := t4, top := t5, sup := hs, hks := t6, hkc := t7, hka := t8, hkf := t9, hns := t10, hdb := t11, hk := t12, hcell := t13, hco := t14, hgen := t15, ht := c13, hev := fun L => t16 _ _ _ L, hsw := fun L => t17 _ _ _ L, hbind := ?_, hbindK := ?_ }⟩
                            · rw [← t1]
                              exact ⟨oc, od, n9, n10, n11, n12, n14, osl, q⟩
                            · intro kV doc pm an ct a b
                              have := t18 cc cda kV doc pm an ct a b
                              rw [t1] at this
                              exact this
                            · intro kV doc pm an ct a b
                              have := t19 cc cda kV doc pm an ct a b
                              rw [t1] at this
                              exact this
                          | _ => cases k5
                      | _ => cases k5
                  | _ => cases k2
                | _ => cases k3
            | _ => cases k3
    | _ => cases c12
theorem XD.made0 (t : d.txt0 prog file) (e : xW K d = d.val) (c : d.ok K file = true) (hs : mg "super" = none) : ExC0 prog K mg (He.ga K d.name) ∧ ExK K (He.ga K d.name) ∧ findIn K (.ref (He.ga K d.name)) d.f = some none := by
  unfold XD.ok at c
  simp only [List.all_cons, List.all_nil, id, Bool.and_true, Bool.and_eq_true, decide_eq_true_eq] at c
  obtain ⟨c1, c2, c3, c4, c5, c6, c7, c8, c9, c10, c11, c12, c13, c14, c15, c16, c17, c18, c19, c20, c21, c22, c23⟩ := c
  refine ⟨⟨?_, c14, c15, c16⟩, ⟨c9, c17, c18, c15, c7, c19, c20, c21, c22⟩, c23⟩
  obtain ⟨txt, p0, p1, p2, p3, p4, p5, j, ar, t1, t2, t3, t4, t5, t6, t7, t8, t12, t13, t14, t15, t16, t18⟩ := t
  unfold iniB at c12
  unfold xW at e
  cases q : K.lookup (xIni K d) with
  | none =>
    rw [q] at c12
    cases c12
  | some o =>
    obtain ⟨oc, od, dt, osl⟩ := o
    rw [q] at c12 e
    cases dt with
    | func fd =>
      obtain ⟨n1, n2, n3, n4, n5, n6, n7, n8, n9, n10, n11, n12, n13, n14, n15⟩ := fd
      have e2 : (some (n1, n2, n3, n4, n5, n6, n7.map (·.1), n15) : XW) = some (("__init__" : Str), d.qual, d.params, FuncBody.stmts d.body, d.scope, mainGlobals, [("__class__" : Str)], builtinsNs) := e
      simp only [Option.some.injEq, Prod.mk.injEq] at e2
      obtain ⟨h1, h2, h3, h4, h5, h6, h7, h8⟩ := e2
      subst h1 h2 h3 h4 h5 h6 h8
      obtain ⟨k1, k20⟩ := He.ba (show (clB K (He.ga K d.name) n7 && (codeB K d.qual file n13 && decide (n8 = .none))) = true from c12)
      obtain ⟨k2, kd⟩ := He.ba k20
      have kd : n8 = .none := of_decide_eq_true kd
      subst kd
      cases n7 with
      | nil => cases h7
      | cons p r =>
        obtain ⟨x, cc⟩ := p
        cases r with
        | cons _ _ => cases h7
        | nil =>
          simp only [List.map_cons, List.map_nil, List.cons.injEq, and_true] at h7
          subst h7
          have k3 : cellB K (He.ga K d.name) cc = true := k1
          unfold cellB at k3
          cases qc : K.lookup cc with
          | none => rw [qc] at k3; cases k3
          | some o =>
            obtain ⟨cl, cld, cdt, csl⟩ := o
            rw [qc] at k3
            cases cdt with
            | cell w =>
              cases w with
              | none => cases k3
              | some w =>
                cases w with
                | ref c =>
                  have ec : c = He.ga K d.name := of_decide_eq_true k3
                  subst ec
                  cases n13 with
                  | ref cda =>
                    obtain ⟨k4, k5⟩ := He.ba (show (codeIn K (.ref cda) d.qual && (match K.lookup cda with
                      | some ⟨_, _, .fields vs, _⟩ => (match (vs[2]? : Option Value) with
                        | some (.str x _) => decide (x = file)
                        | _ => false)
                      | _ => false)) = true from k2)
                    cases qd : K.lookup cda with
                    | none => rw [qd] at k5; cases k5
                    | some o =>
                      obtain ⟨ccl, cdd, ddt, ccs⟩ := o
                      rw [qd] at k5
                      cases ddt with
                      | fields vs =>
                        simp only at k5
                        cases qv : vs[2]? with
                        | none => rw [qv] at k5; cases k5
                        | some u =>
                          rw [qv] at k5
                          cases u with
                          | str x tf =>
                            have ex : x = file := of_decide_eq_true k5
                            subst ex
                            refine ⟨d.b.n, d.b.ii, d.b.nw, d.b.bm, xIni K d, cc, cda, d.qual, txt, x, d.params, d.scope, p0, p1, p2, p3, p4, p5, j, ar,
                              { T := ⟨d.b.FB, d.b.KF, d.b.SF, c1, c2, c3, c4, c5, c6, c7, c8, c9⟩, hi := c10, ty := c11, fn := ?_, code := ⟨ccl, cdd, vs, ccs, tf, qd, qv⟩, cell := ⟨cl, cld, csl, qc⟩, cd := k4, hp := t2, har := t3, file_ := t4, top := t5, sup := hs, hks := t6, hkc := t7, hka := t8, hk := t12, hcell := t13, hco := t14, hgen := t15, hev := fun L => t16 _ _ _ L, hbind := ?_ }⟩
                            · rw [← t1]
                              exact ⟨oc, od, n9, n10, n11, n12, n14, osl, q⟩
                            · intro kV doc pm an ct a
                              have := t18 cc cda kV doc pm an ct a
                              rw [t1] at this
                              exact this
                          | _ => cases k5
                      | _ => cases k5
                  | _ => cases k2
                | _ => cases k3
            | _ => cases k3
    | _ => cases c12
/-! ### the Hook -/
abbrev AlX : Type := He.AlD × Bool × List XW
def obsX (fa : List He.Fa) (fn : List He.DefD) (file : Str) (xs : List XD) (K : Frag) : AlX := (He.obsD fa fn K, (xs.all fun d => d.ok K file) && pairB K xs, xs.map fun d => xW K d)
def valX (fn : List He.DefD) (xs : List XD) : AlX := (He.valD fn, true, xs.map XD.val)
def SaysX (fa : List He.Fa) (fn : List He.DefD) (file : Str) (xs : List XD) (K : Frag) : Prop := obsX fa fn file xs K = valX fn xs
def obsXG (n : Nat) (fa : List He.Fa) (fn : List He.DefD) (file : Str) (xs : List XD) (g : Addr → Option Obj) : AlX := obsX fa fn file xs (He.frG g (cStatics :: He.asD g n))
def hookX (n : Nat) (fa : List He.Fa) (fn : List He.DefD) (file : Str) (xs : List XD) : Hook where
  α := AlX
  obs := fun s => obsXG n fa fn file xs s.heap.get?
  val := fun _ => valX fn xs
  says := fun _ h => ∃ K : Frag, K.In h ∧ SaysX fa fn file xs K
  of := fun _ _ e => ⟨_, He.frG_in, e⟩
  keeps := fun _ _ _ ⟨K, hK, c⟩ k => ⟨K, Frag.In.keeps hK k, c⟩
theorem obsXG_eq {n : Nat} {fa : List He.Fa} {fn : List He.DefD} {file : Str} {xs : List XD} {g : Addr → Option Obj} {s : Shared} (h : ∀ a, g a = s.heap.get? a) : obsXG n fa fn file xs g = (hookX n fa fn file xs).obs s := by
  have e : g = s.heap.get? := funext h
  rw [e] <;> rfl
variable {fa : List He.Fa} {fn : List He.DefD} {xs : List XD}
theorem SaysX.base (c : SaysX fa fn file xs K) : He.SaysD fa fn K := congrArg (fun z : AlX => z.1) c
theorem mem_map_eq {α β : Type} {f g : α → β} : ∀ {l : List α}, l.map f = l.map g → ∀ d ∈ l, f d = g d
  | [], _, _, h => nomatch h
  | x :: l, e, d, h => by
    rw [List.map_cons, List.map_cons, List.cons.injEq] at e
    rcases List.mem_cons.mp h with rfl | h
    · exact e.1
    · exact mem_map_eq e.2 d h
theorem SaysX.ext (c : SaysX fa fn file xs K) (ht : ∀ d ∈ xs, d.name ≠ "OtherNesting" → d.txt prog file) (ht0 : ∀ d ∈ xs, d.name = "OtherNesting" → d.txt0 prog file) (hs : mg "super" = none) (hg : ∀ d ∈ xs, mg d.name = some (.ref (He.ga K d.name))) (hf : ∀ d ∈ xs, DV.exField d.name = d.f) (fr : ∀ b ∈ DV.exBases, mg b = none) (hd : ∀ d ∈ xs, d.name ∉ DV.exBases) : DV.ExT prog K mg (xs.map XD.name) := by
  have c1 : ((xs.all fun d => d.ok K file) && pairB K xs) = true := congrArg (fun z : AlX => z.2.1) c
  have c2 : (xs.map fun d => xW K d) = xs.map XD.val := congrArg (fun z : AlX => z.2.2) c
  obtain ⟨c3, c4⟩ := He.ba c1
  rw [List.all_eq_true] at c3
  unfold pairB at c4
  simp only [List.all_eq_true, Bool.and_eq_true, decide_eq_true_eq] at c4
  have m : ∀ d ∈ xs, d.name ≠ "OtherNesting" → _ := fun d h n => XD.made (ht d h n) (mem_map_eq c2 d h) (c3 d h) hs
  have m0 : ∀ d ∈ xs, d.name = "OtherNesting" → _ := fun d h n => XD.made0 (ht0 d h n) (mem_map_eq c2 d h) (c3 d h) hs
  have both : ∀ d ∈ xs, ExK K (He.ga K d.name) ∧ findIn K (.ref (He.ga K d.name)) d.f = some none := fun d h => by
    by_cases n : d.name = "OtherNesting"
    · exact (m0 d h n).2
    · exact (m d h n).2
  refine ⟨fun n hn => ?_, fun n hn => ?_, fun n hn => ?_, fun n hn => ?_, fun n hn => ?_, fun n hn y hy => ?_, fun n hn y hy => ?_, fun n hn b hb => ?_, fr, fun n hn => ?_⟩ <;> obtain ⟨d, h, rfl⟩ := List.mem_map.mp hn
  · exact hg d h
  · intro n; rw [hf d h]; exact (m d h n).1
  · intro n; exact (m0 d h n).1
  · exact (both d h).1
  · rw [hf d h]; exact (both d h).2
  · obtain ⟨e, h2, rfl⟩ := List.mem_map.mp hy
    exact ((c4 d h).1 e h2).1
  · obtain ⟨e, h2, rfl⟩ := List.mem_map.mp hy
    exact ((c4 d h).1 e h2).2
  · exact (c4 d h).2 b hb
  · exact hd d h
end
end DVX
end
section
set_option Elab.async false
set_option linter.all false
set_option maxRecDepth 100000
set_option maxHeartbeats 4000000
/-! calls by name of defs that raise -/
namespace DV
open PySem PySem.Spec PyProof.Rows L2
end DV
end
section
set_option Elab.async false
set_option linter.all false
set_option maxRecDepth 100000
set_option maxHeartbeats 4000000
namespace DV
open PySem PySem.Spec PyProof.Rows L2 PySem.W
end DV
end
section
set_option Elab.async false
set_option linter.all false
set_option maxRecDepth 100000
set_option maxHeartbeats 4000000
/-! sorted(tuple) -/
namespace DV
open PySem PySem.Spec PyProof.Rows L2 PySem.W
end DV
end
section
set_option Elab.async false
set_option linter.all false
set_option maxRecDepth 100000
set_option maxHeartbeats 4000000
namespace DV
open PySem PySem.Spec PyProof.Rows L2
/-! ### defs that are called where no repr is under way -/
/-- no text of a value is being made -/
def Quiet (A : Around) : Prop := A.guards = some []
theorem Quiet.deeper {A : Around} (q : Quiet A) (e : Env) : Quiet (A.deeper e) := q
/-- a def's promise, wherever no text of a value is being made -/
structure FnG (P : Program) (w : World) (K : PySem.W.Frag) (mg : Str → Option Value) (base : Heap) (k : Nat) (f : Addr) (fd : FuncData) (ps : List Str) (sp : Sp) : Prop where
  many : ∀ xs H Q E, sp xs H Q E → xs.length = ps.length
  goes : ∀ (A : Around) (outer : List Env) (s : Shared) (H : Hp) (ar : PySem.Args) (us : List Value) (xs : List V) (Q : VK) (E : XK), Quiet A → Room k A → Env0 P w K mg base A outer s H →
    BindsTo s fd ar (ps.zip us) → Vals xs us → sp xs H Q E → codeAny (model P w) A (.call (.ref f) ar) (CR CX0 outer P w H s Q E) s
section
variable {P : Program} {w : World} {K : PySem.W.Frag} {mg : Str → Option Value} {base : Heap} {k : Nat} {f : Addr} {fd : FuncData} {ps : List Str} {sp : Sp}
theorem FnG.of (F : FnOk P w K mg base CX0 k f fd ps sp) : FnG P w K mg base k f fd ps sp := ⟨F.len, fun A o s H a us xs Q E _ => F.run A o s H a us xs Q E⟩
theorem FnG.imp {sp2 : Sp} (F : FnG P w K mg base k f fd ps sp) (h : ∀ xs H Q E, sp2 xs H Q E → sp xs H Q E) : FnG P w K mg base k f fd ps sp2 :=
  ⟨fun xs H Q E z => F.many xs H Q E (h _ _ _ _ z), fun A o s H a us xs Q E g r e b v z => F.goes A o s H a us xs Q E g r e b v (h _ _ _ _ z)⟩
end
/-! ### at the top -/
/-! ### the text of a value -/
/-! ### such defs, by what they compute -/
theorem FnG.mono {P : Program} {w : World} {K : PySem.W.Frag} {mg : Str → Option Value} {base : Heap} {j k : Nat} {f : Addr} {fd : FuncData} {ps : List Str} {sp : Sp} (F : FnG P w K mg base j f fd ps sp) (h : j ≤ k) : FnG P w K mg base k f fd ps sp :=
  ⟨F.many, fun A o s H a us xs Q E g r => F.goes A o s H a us xs Q E g (r.mono h)⟩
/-! stepping through methods of lists -/
def kMt2 (g : GCall) (r : R) (rs : List R) (L : LS) : Rs R := S0.onLs g (peeks L (r :: rs)) L
def kMt1 (T : String) (g : GCall) (as : DA) (r : R) (o : Option D) (L : LS) : Rs R := match o with
  | some d => if tyOkR T d = true then (as L).bind (kMt2 g r) else .stuck
  | none => .stuck
def kMt (T : String) (g : GCall) (as : DA) (r : R) (L : LS) : Rs R := kMt1 T g as r (peek L r) L
theorem n_s_mt (T : String) (g : GCall) (fo : DE) (as : DA) (L : LS) : dMt T g fo as L = (fo L).bind (kMt T g as) := by
  unfold dMt
  congr 1
  funext r L1
  unfold kMt kMt1 peekTy
  cases peek L1 r with
  | none => rfl
  | some d => simp only [S0.s_onL]; rfl
theorem s_kMt1L (g : GCall) (as : DA) (r : R) (ds : List D) (L : LS) : kMt1 "list" g as r (some (.lst ds)) L = (as L).bind (kMt2 g r) := rfl
/-! texts compared -/
def gStrB (neg : Bool) : GOp := fun d e => match d, e with
  | .str x, .str y => some (.v (.bl (if neg then !decide (x = y) else decide (x = y))))
  | _, _ => none
theorem RpN.isStr {K : PySem.W.Frag} {H G : Hp} {v : V} {x : Str} (h : RpN K H G v (.str x)) : v = .str x := by
  rcases h with h | ⟨a, o, rfl, h1, h2⟩
  · cases h; rfl
  · cases h2
theorem s_eqS (x : Str) : gStrB false (.str x) (.str x) = some (.v (.bl true)) := by simp [gStrB]
theorem s_neS (x : Str) : gStrB true (.str x) (.str x) = some (.v (.bl false)) := by simp [gStrB]
/-! argument lists, item by item -/
theorem RRL.all {K : PySem.W.Frag} {Hs : Hp} {L : LS} {σ : L2.St} {H G : Hp} : ∀ {vs : List V} {rs : List R}, RRL K Hs L σ H G vs rs → RRs K Hs L σ H G vs rs
  | [], [], _ => .nil
  | _ :: _, _ :: _, ⟨a, b, _⟩ => .cons a (RRL.all b)
  | [], _ :: _, h => h.elim
  | _ :: _, [], h => h.elim
end DV
end
section
set_option Elab.async false
set_option linter.all false
set_option maxRecDepth 100000
set_option maxHeartbeats 4000000
namespace DV
open PySem PySem.Spec PyProof.Rows L2
/-! ### is True, is not True -/
def gIsBl (neg : Bool) : GOp := fun d e => match d, e with
  | .bl a, .bl b => some (.v (.bl (if neg then !decide (a = b) else decide (a = b))))
  | _, _ => none
theorem s_isBl (n a b : Bool) : gIsBl n (.bl a) (.bl b) = some (.v (.bl (if n then !decide (a = b) else decide (a = b)))) := rfl
end DV
end
section
set_option Elab.async false
set_option linter.all false
set_option maxRecDepth 100000
set_option maxHeartbeats 4000000
/-! exceptions, stepped through -/
namespace DV
open PySem PySem.Spec PyProof.Rows L2 DV.S0
def endX (e : Ex) : Option (List D) → Ro
  | some os => .exc e os
  | none => .stuck
theorem s_endE (ms : List Pm) (e : Ex) (L : LS) : endL ms (.exc e L) = endX e (outsL L (ioIx ms 0 0)) := by
  unfold endL endX; rfl
theorem s_endX (e : Ex) (os : List D) : endX e (some os) = .exc e os := rfl
theorem s_outE (L : LS) (e : Ex) : outR L [] (.exc e []) = .exc e L := rfl
def kRz (n f : Str) : Option (D × LS) → Fl
  | some p => .exc ⟨n, [(f, p.1)]⟩ p.2
  | none => .stuck
def kRaise (n f : Str) (r : R) (L : LS) : Fl := kRz n f (fz L r)
theorem n_s_raise (n f : Str) (fe : DE) (L : LS) : dRaise n f fe L = (fe L).fl (kRaise n f) := by
  unfold dRaise kRaise
  cases fe L with
  | ok r L1 =>
    show (match fz L1 r with | some (d, L2) => _ | none => _) = kRz n f (fz L1 r)
    cases fz L1 r with
    | none => rfl
    | some p => rfl
  | exc e L1 => rfl
  | stuck => rfl
theorem s_kRz (n f : Str) (d : D) (L : LS) : kRz n f (some (d, L)) = .exc ⟨n, [(f, d)]⟩ L := rfl
/-- n among ns: kept as it is -/
def isIn (n : Str) (ns : List Str) : Bool := ns.contains n
def anyC (n : Str) (cs : List Str) : Bool := cs.any (subEx n)
def fldB (n g a : Str) (ns : List Str) : Bool := ns.contains n && (decide (g = a) && decide (exField n = a))
def kTryE (ic ie : Nat) (e : Ex) (L1 : LS) (b c : Bool) : Fl := if (b && c) = true then .nx (((L1.set ie (.val (.exn e.cls e.fs))).set ic (.val (.exn e.cls e.fs))).set ie .un) else .stuck
def kTry (i : Option Nat) (ic ie : Nat) (cs : List Str) : Rs R → Fl
  | .ok (.v d) L1 => .nx (putL i L1 d)
  | .exc e L1 => kTryE ic ie e L1 (isIn e.cls cs) (decide (ie < L1.length))
  | _ => .stuck
theorem n_s_try (i : Option Nat) (ic ie : Nat) (f : DE) (cs : List Str) (L : LS) : dTry i ic ie f cs L = kTry i ic ie cs (f L) := rfl
theorem s_kTryV (i : Option Nat) (ic ie : Nat) (cs : List Str) (d : D) (L : LS) : kTry i ic ie cs (.ok (.v d) L) = .nx (putL i L d) := rfl
theorem s_kTryX (i : Option Nat) (ic ie : Nat) (cs : List Str) (n : Str) (fs : List (Str × D)) (L : LS) : kTry i ic ie cs (.exc ⟨n, fs⟩ L) = kTryE ic ie ⟨n, fs⟩ L (isIn n cs) (decide (ie < L.length)) := rfl
theorem s_kTryE (ic ie : Nat) (n : Str) (fs : List (Str × D)) (L : LS) : kTryE ic ie ⟨n, fs⟩ L true true = .nx (((L.set ie (.val (.exn n fs))).set ic (.val (.exn n fs))).set ie .un) := rfl
theorem s_putL (i : Nat) (L : LS) (d : D) : putL (some i) L d = L.set i (.val d) := rfl
theorem s_putN (L : LS) (d : D) : putL none L d = L := rfl
def kIsB (b c : Bool) (L : LS) : Rs R := if b = true then .ok (.v (.bl c)) L else .stuck
def kIsO (ns cs : List Str) (L : LS) : Option D → Rs R
  | some (.exn n _) => kIsB (isIn n ns) (anyC n cs) L
  | _ => .stuck
def kIsX (ns cs : List Str) (r : R) (L : LS) : Rs R := kIsO ns cs L (peek L r)
theorem n_s_isX (ns : List Str) (f : DE) (cs : List Str) (L : LS) : dIsX ns f cs L = (f L).bind (kIsX ns cs) := rfl
theorem s_kIsO (ns cs : List Str) (L : LS) (n : Str) (fs : List (Str × D)) : kIsO ns cs L (some (.exn n fs)) = kIsB (isIn n ns) (anyC n cs) L := rfl
theorem s_kIsB (c : Bool) (L : LS) : kIsB true c L = .ok (.v (.bl c)) L := rfl
def kXfB (b : Bool) (d : D) (L : LS) : Rs R := if b = true then .ok (.v d) L else .stuck
def kXfO (ns : List Str) (at_ : Str) (L : LS) : Option D → Rs R
  | some (.exn n [(g, d)]) => kXfB (fldB n g at_ ns) d L
  | _ => .stuck
def kXf (ns : List Str) (at_ : Str) (r : R) (L : LS) : Rs R := kXfO ns at_ L (peek L r)
theorem n_s_xf (ns : List Str) (f : DE) (at_ : Str) (L : LS) : dXf ns f at_ L = (f L).bind (kXf ns at_) := rfl
theorem s_kXfO (ns : List Str) (at_ : Str) (L : LS) (n g : Str) (d : D) : kXfO ns at_ L (some (.exn n [(g, d)])) = kXfB (fldB n g at_ ns) d L := rfl
theorem s_kXfB (d : D) (L : LS) : kXfB true d L = .ok (.v d) L := rfl
def kMkO (n f : Str) : Option (D × LS) → Rs R
  | some p => .ok (.v (.exn n [(f, p.1)])) p.2
  | none => .stuck
def kMk (n f : Str) (r : R) (L : LS) : Rs R := kMkO n f (fz L r)
theorem n_s_mkX (n f : Str) (fe : DE) (L : LS) : dMkX n f fe L = (fe L).bind (kMk n f) := by
  unfold dMkX kMk
  cases fe L with
  | ok r L1 =>
    show (match fz L1 r with | some (d, L2) => _ | none => _) = kMkO n f (fz L1 r)
    cases fz L1 r with
    | none => rfl
    | some p => rfl
  | exc e L1 => rfl
  | stuck => rfl
theorem s_kMkO (n f : Str) (d : D) (L : LS) : kMkO n f (some (d, L)) = .ok (.v (.exn n [(f, d)])) L := rfl
theorem n_s_mkX0 (n : Str) (L : LS) : dMkX0 n L = .ok (.v (.exn n [])) L := rfl
theorem n_s_raise0 (n : Str) (L : LS) : dRaise0 n L = .exc ⟨n, []⟩ L := rfl
/-- a caught one is not None -/
theorem isN_exn (n : Str) (fs : List (Str × D)) : gIsN false (.exn n fs) .non = some (.v (.bl false)) := rfl
theorem notN_exn (n : Str) (fs : List (Str × D)) : gIsN true (.exn n fs) .non = some (.v (.bl true)) := rfl
end DV
end
section
set_option Elab.async false
set_option linter.all false
set_option maxRecDepth 100000
set_option maxHeartbeats 4000000
/-! list.count and list.index of a bool -/
namespace DV
open PySem PySem.Spec PyProof.Rows L2
end DV
end
section
set_option Elab.async false
set_option linter.all false
set_option maxRecDepth 100000
set_option maxHeartbeats 4000000
/-! f(..).append("text"): a new list is changed and forgotten -/
namespace DV
open PySem PySem.Spec PyProof.Rows L2
def onApp (L : LS) : R → Fl
  | .t (.lst ds) => if lenOk ds.length = true then .nx (L.map resS) else .stuck
  | _ => .stuck
def dAppT (f : DE) : DS := fun L => (f L).fl fun r L1 => onApp L1 r
def kAppT (r : R) (L : LS) : Fl := onApp L r
theorem n_s_appT (f : DE) (L : LS) : dAppT f L = (f L).fl kAppT := rfl
theorem s_onApp (L : LS) (ds : List D) : onApp L (.t (.lst ds)) = if lenOk ds.length = true then .nx (L.map resS) else .stuck := rfl
end DV
end
section
set_option Elab.async false
set_option linter.all false
set_option maxRecDepth 100000
set_option maxHeartbeats 4000000
/-! sorted of lists, of tuples of ints; dict(pairs) that is only read, get -/
namespace DV
open PySem PySem.Spec PyProof.Rows L2 PySem.W
/-! ### dict(pairs) -/
def unpair : List D → Option (List (Int × D))
  | [] => some []
  | .tup [.int k, d] :: ds => (unpair ds).map fun r => (k, d) :: r
  | _ => none
def dPairs (ds : List D) : Option (List (Int × D)) := (unpair ds).bind fun kvs => if (decide ((kvs.map (·.1)).Nodup) && lenOk kvs.length) = true then some kvs else none
def onDP (L : LS) : Option (List (Int × D)) → Rs R
  | some kvs => .ok (.v (.fd kvs)) L
  | none => .stuck
def kDO (L : LS) : Option D → Rs R
  | some (.lst ds) => onDP L (dPairs ds)
  | _ => .stuck
def kDictP (r : R) (L : LS) : Rs R := kDO L (peek L r)
def dDictP (fa : DE) : DE := fun L => (fa L).bind kDictP
theorem n_s_dictP (fa : DE) (L : LS) : dDictP fa L = (fa L).bind kDictP := rfl
theorem s_kDP (r : R) (L : LS) : kDictP r L = kDO L (peek L r) := rfl
theorem s_kDO (ds : List D) (L : LS) : kDO L (some (.lst ds)) = onDP L (dPairs ds) := rfl
theorem s_onDP (kvs : List (Int × D)) (L : LS) : onDP L (some kvs) = .ok (.v (.fd kvs)) L := rfl
section
variable {X : Cx} {E : XK} {a b c : Expr} {pos : Pos} {fa fb fc : DE}
def kG3 (kvs : List (Int × D)) (i : Int) : R → LS → Rs R
  | .v d, L => .ok (.v ((lookI kvs i).getD d)) L
  | _, _ => .stuck
def onG2 (fc : DE) (kvs : List (Int × D)) (L : LS) : Option D → Rs R
  | some (.int i) => (fc L).bind (kG3 kvs i)
  | _ => .stuck
def kG2 (fc : DE) (kvs : List (Int × D)) (r2 : R) (L : LS) : Rs R := onG2 fc kvs L (peek L r2)
def onG1 (fb fc : DE) (L : LS) : Option D → Rs R
  | some (.fd kvs) => (fb L).bind (kG2 fc kvs)
  | _ => .stuck
def kG1 (fb fc : DE) (r1 : R) (L : LS) : Rs R := onG1 fb fc L (peek L r1)
def dGet2 (fa fb fc : DE) : DE := fun L => (fa L).bind (kG1 fb fc)
theorem n_s_get2 (fa fb fc : DE) (L : LS) : dGet2 fa fb fc L = (fa L).bind (kG1 fb fc) := rfl
theorem s_kG1 (fb fc : DE) (r1 : R) (L : LS) : kG1 fb fc r1 L = onG1 fb fc L (peek L r1) := rfl
theorem s_onG1 (fb fc : DE) (L : LS) (kvs : List (Int × D)) : onG1 fb fc L (some (.fd kvs)) = (fb L).bind (kG2 fc kvs) := rfl
theorem s_kG2 (fc : DE) (kvs : List (Int × D)) (r2 : R) (L : LS) : kG2 fc kvs r2 L = onG2 fc kvs L (peek L r2) := rfl
theorem s_onG2 (fc : DE) (L : LS) (kvs : List (Int × D)) (i : Int) : onG2 fc kvs L (some (.int i)) = (fc L).bind (kG3 kvs i) := rfl
theorem s_kG3 (kvs : List (Int × D)) (i : Int) (d : D) (L : LS) : kG3 kvs i (.v d) L = .ok (.v ((lookI kvs i).getD d)) L := rfl
end
end DV
end
section
set_option Elab.async false
set_option linter.all false
set_option maxRecDepth 100000
set_option maxHeartbeats 4000000
namespace DV
open PySem PySem.Spec PyProof.Rows L2
/-! ### the set of a list of ints -/
end DV
end
section
set_option Elab.async false
set_option linter.all false
set_option maxRecDepth 100000
set_option maxHeartbeats 4000000
namespace DV
open PySem PySem.Spec PyProof.Rows L2
/-! the different ones, ascending -/
def insS (k : Int) : List Int → List Int
  | [] => [k]
  | x :: l => if k < x then k :: x :: l else if k = x then x :: l else x :: insS k l
def sortSet (ns : List Int) : List Int := ns.foldr insS []
end DV
end
section
set_option Elab.async false
set_option linter.all false
set_option maxRecDepth 100000
set_option maxHeartbeats 4000000
namespace DV
open PySem PySem.Spec PyProof.Rows L2
/-! ### len(set(texts)), the texts all different -/
end DV
end
section
set_option Elab.async false
set_option linter.all false
set_option maxRecDepth 100000
set_option maxHeartbeats 4000000
/-! in a try's body: a built-in function of one argument that may raise -/
namespace DV
open PySem PySem.Spec PyProof.Rows L2
/-! a tuple times an int -/
end DV
end
section
set_option Elab.async false
set_option linter.all false
set_option maxRecDepth 100000
set_option maxHeartbeats 4000000
/-! dicts that are changed, their keys tuples of ints: {}, d[k] = v, d[k], d.get(k, x) -/
namespace DV
open PySem PySem.Spec PyProof.Rows L2 PySem.W
def keyI : List D → Option (List Key)
  | [] => some []
  | .int i :: r => (keyI r).map fun k => Sum.inl i :: k
  | _ => none
def valD (ks : List (List Key × D)) (k : List Key) : Option D := (ks.find? fun p => decide (p.1 = k)).map (·.2)
def putD (ks : List (List Key × D)) (k : List Key) (d : D) : List (List Key × D) := if (ks.any fun p => decide (p.1 = k)) = true then ks.map (fun p => if p.1 = k then (p.1, d) else p) else ks ++ [(k, d)]
section
variable {K : PySem.W.Frag} {G : Hp}
theorem RpN.dctT {H : Hp} (sb : ∀ a o, G a = some o → H a = some o) {v : V} {ds : List (List Key × D)} (h : RpN K H G v (.dctT ds)) : ∃ a ks, v = .ref a ∧ H a = some (.dT ks) ∧ ks.map (·.1) = ds.map (·.1) ∧ Rps K G (ks.map (·.2)) (ds.map (·.2)) := by
  rcases h with h | ⟨a, o, e, h1, h2⟩
  · cases h with | dctT r k q => exact ⟨_, _, rfl, sb _ _ r, k, q⟩
  · cases h2 with | dctT k q => exact ⟨_, _, e, h1, k, q⟩
end
section
variable {X : Cx} {E : XK} {a b c e o i : Expr} {pos : Pos} {fa fb fc fe fo fi : DE}
/-- {} -/
def dDictT : DE := fun L => .ok (.t (.dctT [])) L
/-- d[k] = v -/
def gPutT (d : D) (i : D) (y : D) : Option D := match d, i with
  | .dctT ds, .tup xs => match keyI xs with
    | some k => if lenOk (ds.length + 1) = true then some (.dctT (putD ds k y)) else none
    | none => none
  | _, _ => none
def dStoreT (fe fo fi : DE) : DS := fun L => (fe L).fl fun r L1 => match fz L1 r with
  | some (y, L2) => (fo L2).fl fun ro L3 => (fi L3).fl fun ri L4 => match ro, peek L4 ri with
    | .s j, some i => match L4[j]? with
      | some (.obj m d) => if m.wr = true then match gPutT d i y with
        | some d' => .nx (L4.set j (.obj m d'))
        | none => .stuck
        else .stuck
      | _ => .stuck
    | _, _ => .stuck
  | none => .stuck
/-- {(i, j): v}, written out in numbers -/
def dOneT (i j v : Int) : DE := fun L => .ok (.t (.dctT [([.inl i, .inl j], .int v)])) L
/-! d.get(k, x) -/
def gT3 : Option D → Option D → R → LS → Rs R
  | some (.dctT ks), some (.tup xs), .v d, L => match keyI xs with
    | some k => .ok (.v ((valD ks k).getD d)) L
    | none => .stuck
  | _, _, _, _ => .stuck
def kT3 (r1 r2 r3 : R) (L : LS) : Rs R := gT3 (peek L r1) (peek L r2) r3 L
def kT2 (fc : DE) (r1 r2 : R) (L : LS) : Rs R := (fc L).bind (kT3 r1 r2)
def oT1 (fb fc : DE) (r1 : R) (L : LS) : Option D → Rs R
  | some (.dctT _) => (fb L).bind (kT2 fc r1)
  | _ => .stuck
def kT1 (fb fc : DE) (r1 : R) (L : LS) : Rs R := oT1 fb fc r1 L (peek L r1)
def dGetT2 (fa fb fc : DE) : DE := fun L => (fa L).bind (kT1 fb fc)
end
end DV
end
section
set_option Elab.async false
set_option linter.all false
set_option maxRecDepth 100000
set_option maxHeartbeats 4000000
/-! stepping rules for dicts with tuple keys -/
namespace DV
open PySem PySem.Spec PyProof.Rows L2 PySem.W
theorem n_dictT (L : LS) : dDictT L = .ok (.t (.dctT [])) L := rfl
theorem n_oneT (i j v : Int) (L : LS) : dOneT i j v L = .ok (.t (.dctT [([.inl i, .inl j], .int v)])) L := rfl
def onStT (y : D) (L : LS) (ro : R) (oi : Option D) : Fl := match ro, oi with
  | .s j, some i => match L[j]? with
    | some (.obj m d) => if m.wr = true then match gPutT d i y with
      | some d' => .nx (L.set j (.obj m d'))
      | none => .stuck
      else .stuck
    | _ => .stuck
  | _, _ => .stuck
def kStT3 (y : D) (ro ri : R) (L : LS) : Fl := onStT y L ro (peek L ri)
def kStT2 (fi : DE) (y : D) (ro : R) (L : LS) : Fl := (fi L).fl (kStT3 y ro)
def onStT1 (fo fi : DE) : Option (D × LS) → Fl
  | some (y, L2) => (fo L2).fl (kStT2 fi y)
  | none => .stuck
def kStT (fo fi : DE) (r : R) (L : LS) : Fl := onStT1 fo fi (fz L r)
theorem n_s_storeT (fe fo fi : DE) (L : LS) : dStoreT fe fo fi L = (fe L).fl (kStT fo fi) := by
  unfold dStoreT
  congr 1
theorem s_onStT1 (fo fi : DE) (y : D) (L : LS) : onStT1 fo fi (some (y, L)) = (fo L).fl (kStT2 fi y) := rfl
def stST (y i : D) (j : Nat) (L : LS) : Option Sl → Fl
  | some (.obj m d) => if m.wr = true then S0.stO j m L (gPutT d i y) else .stuck
  | _ => .stuck
theorem s_onStT (y i : D) (j : Nat) (L : LS) : onStT y L (.s j) (some i) = stST y i j L L[j]? := by
  cases h : L[j]? with
  | none => simp only [onStT, h]; rfl
  | some s =>
    simp only [onStT, h]
    cases s with
    | obj m d =>
      simp only [stST]
      split
      · unfold S0.stO; split <;> first | (simp_all; done) | (simp_all; rfl) | rfl
      · rfl
    | _ => rfl
theorem s_stSTo (y i : D) (j : Nat) (L : LS) (d : D) : stST y i j L (some (.obj .own d)) = S0.stO j .own L (gPutT d i y) := rfl
theorem n_s_getT2 (fa fb fc : DE) (L : LS) : dGetT2 fa fb fc L = (fa L).bind (kT1 fb fc) := rfl
theorem s_kT1 (fb fc : DE) (r1 : R) (L : LS) : kT1 fb fc r1 L = oT1 fb fc r1 L (peek L r1) := rfl
theorem s_oT1 (fb fc : DE) (r1 : R) (L : LS) (ks : List (List Key × D)) : oT1 fb fc r1 L (some (.dctT ks)) = (fb L).bind (kT2 fc r1) := rfl
theorem s_kT2 (fc : DE) (r1 r2 : R) (L : LS) : kT2 fc r1 r2 L = (fc L).bind (kT3 r1 r2) := rfl
theorem s_kT3 (r1 r2 r3 : R) (L : LS) : kT3 r1 r2 r3 L = gT3 (peek L r1) (peek L r2) r3 L := rfl
theorem s_gT3 (ks : List (List Key × D)) (i j : Int) (d : D) (L : LS) : gT3 (some (.dctT ks)) (some (.tup [.int i, .int j])) (.v d) L = .ok (.v ((valD ks [.inl i, .inl j]).getD d)) L := rfl
/-! what is held -/
end DV
end
section
set_option Elab.async false
set_option linter.all false
set_option maxRecDepth 100000
set_option maxHeartbeats 4000000
/-! [f, g, h][i](k = v, ..): one of three defs, called by name -/
namespace DV
open PySem PySem.Spec PyProof.Rows L2
def dPick3 (fi g0 g1 g2 : DE) : DE := fun L => (fi L).bind fun r L1 => match peek L1 r with
  | some (.int j) => if j = 0 then g0 L1 else if j = 1 then g1 L1 else if j = 2 then g2 L1 else .stuck
  | _ => .stuck
section
variable {X : Cx} {E : XK} {W : WX} {kws : List Keyword} {pos p : Pos} {k : Nat} {x : Str} {ps ks : List Str} {ms : List Pm} {m : Mir} {is : List Nat} {params : Arguments} {body : List Stmt} {scope : Scope} {fd : FuncData} {as : LS → Rs (List D)}
/-! stepping -/
def kPick3 (g0 g1 g2 : DE) (r : R) (L : LS) : Rs R := kPk g0 g1 g2 L (peek L r)
where kPk (g0 g1 g2 : DE) (L : LS) : Option D → Rs R
  | some (.int j) => if j = 0 then g0 L else if j = 1 then g1 L else if j = 2 then g2 L else .stuck
  | _ => .stuck
theorem n_s_pick3 (fi g0 g1 g2 : DE) (L : LS) : dPick3 fi g0 g1 g2 L = (fi L).bind (kPick3 g0 g1 g2) := by
  unfold dPick3
  congr 1
theorem s_kPick3 (g0 g1 g2 : DE) (j : Int) (L : LS) : kPick3 g0 g1 g2 (.v (.int j)) L = if j = 0 then g0 L else if j = 1 then g1 L else if j = 2 then g2 L else .stuck := rfl
end
end DV
end
section
set_option Elab.async false
set_option linter.all false
set_option maxRecDepth 100000
set_option maxHeartbeats 4000000
namespace DV
open PySem PySem.Spec PyProof.Rows L2
/-! ### set comprehensions of ints -/
end DV
end
section
set_option Elab.async false
set_option linter.all false
set_option maxRecDepth 100000
set_option maxHeartbeats 4000000
namespace DV
open PySem PySem.Spec PyProof.Rows L2
/-! ### len of a set comprehension of ints, by what it computes -/
/-- what is left of it -/
def lenK (acc : List DV.D) (L2 : LS) : Rs R := match D.ints acc with
  | some ns => if decide (acc.length ≤ 4000) = true then .ok (.v (.int ((sortSet ns).length : Nat))) L2 else .stuck
  | none => .stuck
def dSetLen (vs : List Nat) (t : Tg) (fi : LS → Rs (List D)) (cond : DT) (elt : DE) : DE := fun L => (fi L).bind fun ds L1 => (lcL vs t cond elt ds [] (wipeL L1 vs)).bind lenK
/-! stepping -/
def kSL (vs : List Nat) (t : Tg) (cond : DT) (elt : DE) (ds : List DV.D) (L1 : LS) : Rs R := (lcL vs t cond elt ds [] (wipeL L1 vs)).bind lenK
theorem n_s_setLen (vs : List Nat) (t : Tg) (fi : LS → Rs (List DV.D)) (cond : DT) (elt : DE) (L : LS) : dSetLen vs t fi cond elt L = (fi L).bind (kSL vs t cond elt) := rfl
theorem lenK_ints {ns : List Int} (h : ns.length ≤ 4000) (L : LS) : lenK (dInts ns) L = .ok (.v (.int ((sortSet ns).length : Nat))) L := by
  unfold lenK
  rw [show D.ints (dInts ns) = some ns from D.ints_ints ns]
  simp only
  rw [if_pos (by simpa [dInts] using h)]
end DV
end
section
set_option Elab.async false
set_option linter.all false
set_option maxRecDepth 100000
set_option maxHeartbeats 4000000
/-! xs[a:c] = ys, c perhaps behind the end -/
namespace DV
open PySem PySem.Spec PyProof.Rows L2
def stSl (m : Md) (j : Nat) (xs ys : List D) (L : LS) (i k : Int) : Fl :=
  if (m.wr && (decide (0 ≤ i) && (decide (i ≤ xs.length) && (decide (i ≤ k) && lenOk (xs.length + ys.length))))) = true then .nx (L.set j (.obj m (.lst (xs.take i.toNat ++ ys ++ xs.drop k.toNat)))) else .stuck
def onStSl2 (ys : List D) (L : LS) (j : Nat) (i k : Int) : Option Sl → Fl
  | some (.obj m (.lst xs)) => stSl m j xs ys L i k
  | _ => .stuck
def onStSl (ys : List D) (L : LS) : R → Option D → Option D → Fl
  | .s j, some (.int i), some (.int k) => onStSl2 ys L j i k L[j]?
  | _, _, _ => .stuck
def kStSl3 (ys : List D) (ro ra rc : R) (L : LS) : Fl := onStSl ys L ro (peek L ra) (peek L rc)
def kStSl2 (ys : List D) (ro : R) (fc : DE) (ra : R) (L : LS) : Fl := (fc L).fl (kStSl3 ys ro ra)
def kStSl1 (ys : List D) (fa fc : DE) (ro : R) (L : LS) : Fl := (fa L).fl (kStSl2 ys ro fc)
def onStSl0 (fo fa fc : DE) : Option (D × LS) → Fl
  | some (.lst ys, L2) => (fo L2).fl (kStSl1 ys fa fc)
  | _ => .stuck
def kStSl (fo fa fc : DE) (r : R) (L : LS) : Fl := onStSl0 fo fa fc (fz L r)
/-- x[a:c] = e -/
def dStoreSl (fe fo fa fc : DE) : DS := fun L => (fe L).fl (kStSl fo fa fc)
theorem n_s_storeSl (fe fo fa fc : DE) (L : LS) : dStoreSl fe fo fa fc L = (fe L).fl (kStSl fo fa fc) := rfl
theorem s_onStSl0 (fo fa fc : DE) (ys : List D) (L : LS) : onStSl0 fo fa fc (some (.lst ys, L)) = (fo L).fl (kStSl1 ys fa fc) := rfl
theorem s_onStSl (ys : List D) (L : LS) (j : Nat) (i k : Int) : onStSl ys L (.s j) (some (.int i)) (some (.int k)) = onStSl2 ys L j i k L[j]? := rfl
theorem s_onStSl2 (ys xs : List D) (L : LS) (j : Nat) (i k : Int) : onStSl2 ys L j i k (some (.obj .own (.lst xs))) = stSl .own j xs ys L i k := rfl
end DV
end
section
set_option Elab.async false
set_option linter.all false
set_option maxRecDepth 100000
set_option maxHeartbeats 4000000
/-! bools among ints: True + 1, True - 1, 0 - True, str(True); the text of any value -/
namespace DV
open PySem PySem.Spec PyProof.Rows L2
section
variable {X : Cx}
variable {K : PySem.W.Frag}
/-! str -/
/-! repr -/
/-! insert -/
def gIns : GMut := fun d ds => match d, ds with
  | .lst xs, [.int i, y] => if (decide (0 ≤ i) && (decide (i ≤ 1000000) && lenOk xs.length)) = true then some (.lst (xs.take i.toNat ++ [y] ++ xs.drop i.toNat), .non) else none
  | _, _ => none
theorem s_ins (xs : List D) (i : Int) (y : D) : gIns (.lst xs) [.int i, y] = if (decide (0 ≤ i) && (decide (i ≤ 1000000) && lenOk xs.length)) = true then some (.lst (xs.take i.toNat ++ [y] ++ xs.drop i.toNat), .non) else none := rfl
/-! t[::-1] -/
end
section
variable {X : Cx} {E : XK} {e a b c tg : Expr} {es : List Expr} {pos : Pos} {f fa fb fc : DE}
def gSl3T (d : D) (lo hi st : Option Int) : Option R := match d with
  | .lst xs => if decide (st ≠ some 0) = true then some (.t (.lst (pickG xs lo hi st))) else none
  | .tup xs => if decide (lo = none ∧ hi = none ∧ st = some (-1)) = true then some (.v (.tup xs.reverse)) else none
  | _ => none
theorem s_sl3TL (xs : List D) (lo hi : Option Int) (st : Option Int) : gSl3T (.lst xs) lo hi st = if decide (st ≠ some 0) = true then some (.t (.lst (pickG xs lo hi st))) else none := rfl
theorem s_sl3TT (xs : List D) : gSl3T (.tup xs) none none (some (-1)) = some (.v (.tup xs.reverse)) := rfl
def onSl3T (d : Option D) (lo hi st : Option Int) (L : LS) : Rs R := S0.onU (fun d => gSl3T d lo hi st) d L
def kSl3T3 (r : R) (lo hi : Option Int) (st : Option Int) (L : LS) : Rs R := onSl3T (peek L r) lo hi st L
def kSl3T2 (fs : LS → Rs (Option Int)) (r : R) (lo : Option Int) (hi : Option Int) (L : LS) : Rs R := (fs L).bind (kSl3T3 r lo hi)
def kSl3T1 (fh fs : LS → Rs (Option Int)) (r : R) (lo : Option Int) (L : LS) : Rs R := (fh L).bind (kSl3T2 fs r lo)
def kSl3T (fl fh fs : LS → Rs (Option Int)) (r : R) (L : LS) : Rs R := (fl L).bind (kSl3T1 fh fs r)
def dSl3T (fa : DE) (fl fh fs : LS → Rs (Option Int)) : DE := fun L => (fa L).bind (kSl3T fl fh fs)
theorem n_s_sl3T (fa : DE) (fl fh fs : LS → Rs (Option Int)) (L : LS) : dSl3T fa fl fh fs L = (fa L).bind (kSl3T fl fh fs) := rfl
theorem s_onSl3T (d : D) (lo hi st : Option Int) (L : LS) : onSl3T (some d) lo hi st L = S0.onU (fun d => gSl3T d lo hi st) (some d) L := rfl
end
end DV
end
section
set_option Elab.async false
set_option linter.all false
set_option maxRecDepth 100000
set_option maxHeartbeats 4000000
/-! len(set(x)) of whole numbers; tuple(range(a, b)) -/
namespace DV
open PySem PySem.Spec PyProof.Rows L2
/-! tuple(range(a, b)) -/
def onTRg : Option D → Option D → LS → Rs R
  | some (.int a), some (.int b), L => if rgEok a b = true then .ok (.v (.tup (rgE a b))) L else .stuck
  | _, _, _ => .stuck
def kTRg2 (r1 r2 : R) (L : LS) : Rs R := onTRg (peek L r1) (peek L r2) L
def kTRg1 (g : DE) (r1 : R) (L : LS) : Rs R := (g L).bind (kTRg2 r1)
def dTRg2 (f g : DE) : DE := fun L => (f L).bind (kTRg1 g)
theorem n_s_trg2 (f g : DE) (L : LS) : dTRg2 f g L = (f L).bind (kTRg1 g) := rfl
theorem s_onTRg (a b : Int) (L : LS) : onTRg (some (.int a)) (some (.int b)) L = if rgEok a b = true then .ok (.v (.tup (rgE a b))) L else .stuck := rfl
/-! min of a list or tuple of whole numbers -/
end DV
end
section
set_option Elab.async false
set_option linter.all false
set_option maxRecDepth 100000
set_option maxHeartbeats 4000000
/-! a tuple times an int, 1 too: then it is the same tuple -/
namespace DV
open PySem PySem.Spec PyProof.Rows L2
end DV
end
section
set_option Elab.async false
set_option linter.all false
set_option maxRecDepth 100000
set_option maxHeartbeats 4000000
/-! sorted of texts -/
namespace DV
open PySem PySem.Spec PyProof.Rows L2 PySem.W
end DV
end
section
set_option Elab.async false
set_option linter.all false
set_option maxRecDepth 100000
set_option maxHeartbeats 4000000
/-! texts: split, join, signs, int(text) -/
namespace DV
open PySem PySem.Spec PyProof.Rows L2
section
variable {K : PySem.W.Frag}
/-! x.split(sep) -/
/-! sep.join(texts) -/
/-! a sign in a text -/
/-! int(text) -/
/-! text[i] -/
/-! for sign in text -/
def signs (z : Str) : List D := z.cps.toList.map fun c => D.str ⟨#[c]⟩
def dIStr (f : DE) : LS → Rs (List D) := fun L => (f L).bind fun r L1 => match peek L1 r with
  | some (.str z) => .ok (signs z) L1
  | _ => .stuck
end
end DV
end
section
set_option Elab.async false
set_option linter.all false
set_option maxRecDepth 100000
set_option maxHeartbeats 4000000
/-! dicts that are changed, their keys ints or texts: {}, d[k] = v, d[k], k not in d -/
namespace DV
open PySem PySem.Spec PyProof.Rows L2 PySem.W
def keyD : D → Option Key
  | .int i => some (.inl i)
  | .str x => some (.inr x)
  | _ => none
def valDK (ks : List (Key × D)) (k : Key) : Option D := (ks.find? fun p => decide (p.1 = k)).map (·.2)
def putDK (ks : List (Key × D)) (k : Key) (d : D) : List (Key × D) := if (ks.any fun p => decide (p.1 = k)) = true then ks.map (fun p => if p.1 = k then (p.1, d) else p) else ks ++ [(k, d)]
/-- d[k] -/
def gGetK : GOp := fun d e => match d, e with
  | .dct ds, i => match keyD i with
    | some k => (valDK ds k).map .v
    | none => none
  | _, _ => none
section
variable {X : Cx} {E : XK} {a b c e o i : Expr} {pos : Pos} {fa fb fc fe fo fi : DE}
/-- {} -/
def dDictK : DE := fun L => .ok (.t (.dct [])) L
/-- d[k] = v -/
def gPutK (d : D) (i : D) (y : D) : Option D := match d, i with
  | .dct ds, i => match keyD i with
    | some k => if lenOk (ds.length + 1) = true then some (.dct (putDK ds k y)) else none
    | none => none
  | _, _ => none
def dStoreK (fe fo fi : DE) : DS := fun L => (fe L).fl fun r L1 => match fz L1 r with
  | some (y, L2) => (fo L2).fl fun ro L3 => (fi L3).fl fun ri L4 => match ro, peek L4 ri with
    | .s j, some i => match L4[j]? with
      | some (.obj m d) => if m.wr = true then match gPutK d i y with
        | some d' => .nx (L4.set j (.obj m d'))
        | none => .stuck
        else .stuck
      | _ => .stuck
    | _, _ => .stuck
  | none => .stuck
end
/-! stepping -/
theorem n_dictK (L : LS) : dDictK L = .ok (.t (.dct [])) L := rfl
def onStK (y : D) (L : LS) (ro : R) (oi : Option D) : Fl := match ro, oi with
  | .s j, some i => match L[j]? with
    | some (.obj m d) => if m.wr = true then match gPutK d i y with
      | some d' => .nx (L.set j (.obj m d'))
      | none => .stuck
      else .stuck
    | _ => .stuck
  | _, _ => .stuck
def kStK3 (y : D) (ro ri : R) (L : LS) : Fl := onStK y L ro (peek L ri)
def kStK2 (fi : DE) (y : D) (ro : R) (L : LS) : Fl := (fi L).fl (kStK3 y ro)
def onStK1 (fo fi : DE) : Option (D × LS) → Fl
  | some (y, L2) => (fo L2).fl (kStK2 fi y)
  | none => .stuck
def kStK (fo fi : DE) (r : R) (L : LS) : Fl := onStK1 fo fi (fz L r)
theorem n_s_storeK (fe fo fi : DE) (L : LS) : dStoreK fe fo fi L = (fe L).fl (kStK fo fi) := by
  unfold dStoreK
  congr 1
theorem s_onStK1 (fo fi : DE) (y : D) (L : LS) : onStK1 fo fi (some (y, L)) = (fo L).fl (kStK2 fi y) := rfl
def stSK (y i : D) (j : Nat) (L : LS) : Option Sl → Fl
  | some (.obj m d) => if m.wr = true then S0.stO j m L (gPutK d i y) else .stuck
  | _ => .stuck
theorem s_onStK (y i : D) (j : Nat) (L : LS) : onStK y L (.s j) (some i) = stSK y i j L L[j]? := by
  cases h : L[j]? with
  | none => simp only [onStK, h]; rfl
  | some s =>
    simp only [onStK, h]
    cases s with
    | obj m d =>
      simp only [stSK]
      split
      · unfold S0.stO; split <;> first | (simp_all; done) | (simp_all; rfl) | rfl
      · rfl
    | _ => rfl
theorem s_stSKo (y i : D) (j : Nat) (L : LS) (d : D) : stSK y i j L (some (.obj .own d)) = S0.stO j .own L (gPutK d i y) := rfl
/-! what is held -/
theorem s_getKi (ks : List (Key × D)) (i : Int) : gGetK (.dct ks) (.int i) = (valDK ks (.inl i)).map .v := rfl
theorem s_getKs (ks : List (Key × D)) (i : Str) : gGetK (.dct ks) (.str i) = (valDK ks (.inr i)).map .v := rfl
theorem s_putKi (ks : List (Key × D)) (i : Int) (y : D) : gPutK (.dct ks) (.int i) y = if lenOk (ks.length + 1) = true then some (.dct (putDK ks (.inl i) y)) else none := rfl
theorem s_putKs (ks : List (Key × D)) (i : Str) (y : D) : gPutK (.dct ks) (.str i) y = if lenOk (ks.length + 1) = true then some (.dct (putDK ks (.inr i) y)) else none := rfl
/-! texts -/
theorem s_kMt1S (g : GCall) (as : DA) (r : R) (x : Str) (L : LS) : kMt1 "str" g as r (some (.str x)) L = (as L).bind (kMt2 g r) := rfl
def onIStr (o : Option D) (L : LS) : Rs (List D) := match o with
  | some (.str z) => .ok (signs z) L
  | _ => .stuck
def kIStr (r : R) (L : LS) : Rs (List D) := onIStr (peek L r) L
theorem n_s_istr (f : DE) (L : LS) : dIStr f L = (f L).bind kIStr := by
  unfold dIStr
  congr 1
theorem s_onIStr (z : Str) (L : LS) : onIStr (some (.str z)) L = .ok (signs z) L := rfl
end DV
end
section
set_option Elab.async false
set_option linter.all false
set_option maxRecDepth 100000
set_option maxHeartbeats 4000000
/-! texts: list(text), text[a:b], a sign that is not in a text -/
namespace DV
open PySem PySem.Spec PyProof.Rows L2
section
variable {K : PySem.W.Frag}
/-! list(text) -/
/-! a sign that is not in a text -/
/-! text[a:b] -/
def gSlS (d : D) (lo hi : Option Int) : Option R := match d with
  | .str z => if decide (z.length ≤ 1000000) = true then some (.v (.str (cutS z lo hi))) else none
  | _ => none
def onSlS (d : Option D) (lo hi : Option Int) (L : LS) : Rs R := S0.onU (fun d => gSlS d lo hi) d L
def kSlS2 (r : R) (lo hi : Option Int) (L : LS) : Rs R := onSlS (peek L r) lo hi L
def kSlS1 (fh : LS → Rs (Option Int)) (r : R) (lo : Option Int) (L : LS) : Rs R := (fh L).bind (kSlS2 r lo)
def kSlS (fl fh : LS → Rs (Option Int)) (r : R) (L : LS) : Rs R := (fl L).bind (kSlS1 fh r)
def dSlS (fa : DE) (fl fh : LS → Rs (Option Int)) : DE := fun L => (fa L).bind (kSlS fl fh)
theorem n_s_slS (fa : DE) (fl fh : LS → Rs (Option Int)) (L : LS) : dSlS fa fl fh L = (fa L).bind (kSlS fl fh) := rfl
theorem s_onSlS (d : D) (lo hi : Option Int) (L : LS) : onSlS (some d) lo hi L = S0.onU (fun d => gSlS d lo hi) (some d) L := rfl
end
end DV
end
section
set_option Elab.async false
set_option linter.all false
set_option maxRecDepth 100000
set_option maxHeartbeats 4000000
/-! lists that are lent to a reader; lists that are handed through a def -/
namespace DV
open PySem PySem.Spec PyProof.Rows L2 PySem.W
/-! a new list of numbers and a text: the def hands the list back -/
def mvD (rs : List R) (L : LS) : Option (List D × Str) := match rs with
  | [.t (.lst ds), r2] => match D.ints ds, peek L r2 with
    | some _, some (.str x) => some (ds, x)
    | _, _ => none
  | _ => none
def mvR (m : Mir) (ds : List D) (x : Str) (L : LS) : Rs R := match m [.lst ds, .str x] with
  | .ok false (.lst es) [] => match D.ints es with
    | some _ => .ok (.t (.lst es)) L
    | none => .stuck
  | _ => .stuck
def kMv (m : Mir) (rs : List R) (L1 : LS) : Rs R := match mvD rs L1 with
  | some p => mvR m p.1 p.2 L1
  | none => callR [.val, .val] m rs L1
def dFnMv (m : Mir) (as : DA) : DE := fun L => (as L).bind (kMv m)
theorem n_s_fnMv (m : Mir) (as : DA) (L : LS) : dFnMv m as L = (as L).bind (kMv m) := rfl
theorem s_kMv (m : Mir) (ns : List Int) (x : Str) (L : LS) : kMv m [.t (.lst (dInts ns)), .v (.str x)] L = mvR m (dInts ns) x L := by
  unfold kMv mvD
  simp only [show D.ints (dInts ns) = some ns from D.ints_ints ns]
  rfl
theorem s_kMvN (m : Mir) (d : D) (r : R) (L : LS) : kMv m [.v d, r] L = kFn [.val, .val] m [.v d, r] L := rfl
end DV
end
section
set_option Elab.async false
set_option linter.all false
set_option maxRecDepth 100000
set_option maxHeartbeats 4000000
namespace DV
open PySem PySem.Spec PyProof.Rows L2
/-! len({x for x in v}), v's list left as it is -/
def dSetLenV (i : Nat) : DE := fun L => match peek L (.s i) with
  | some (.lst ds) => lenK ds L
  | _ => .stuck
/-! stepping -/
def onSLV (L : LS) : Option D → Rs R
  | some (.lst ds) => lenK ds L
  | _ => .stuck
theorem n_s_setLenV (i : Nat) (L : LS) : dSetLenV i L = onSLV L (peek L (.s i)) := by unfold dSetLenV onSLV; rfl
theorem s_onSLV (L : LS) (ds : List D) : onSLV L (some (.lst ds)) = lenK ds L := rfl
end DV
end
section
set_option Elab.async false
set_option linter.all false
namespace PI
/-! ### rows, stretches, moves: plain -/
def val (ns : List Int) (i : Nat) : Int := ns.getD i 0
def iv (a b : Nat) : List Nat := List.range' a (b + 1 - a)
/-- the ends of the stretch of a place -/
def lo (cs : List Nat) : Nat → Nat
  | 0 => 0
  | p + 1 => if p ∈ cs then lo cs p else p + 1
def hiF (cs : List Nat) : Nat → Nat → Nat
  | 0, p => p
  | f + 1, p => if p ∈ cs then hiF cs f (p + 1) else p
def hi (cs : List Nat) (n p : Nat) : Nat := hiF cs (n - 1 - p) p
/-- the stretches from a place on -/
def outs (cs : List Nat) (n : Nat) : Nat → Nat → List (List Nat)
  | 0, _ => []
  | f + 1, p => if p < n then iv p (hi cs n p) :: outs cs n f (hi cs n p + 1) else []
/-- the place of the biggest box -/
def topL (ns : List Int) : List Nat → Nat
  | [] => 0
  | i :: r => r.foldl (fun a b => if val ns a < val ns b then b else a) i
def top (ns : List Int) (a b : Nat) : Nat := topL ns (iv a b)
/-- different sizes -/
def Dif (ns : List Int) : Prop := ∀ i j, i < ns.length → j < ns.length → val ns i = val ns j → i = j
/-- a history -/
def Hist (n : Nat) (h : List Nat) : Prop := h.Nodup ∧ ∀ g ∈ h, g + 1 < n
/-! ### nestings -/
def up (N : List (Option Nat)) (p : Nat) : Option Nat := N.getD p none
/-- each holder is there and is bigger -/
def Up (ns : List Int) (N : List (Option Nat)) : Prop := N.length = ns.length ∧ ∀ p q, up N p = some q → q < ns.length ∧ val ns p < val ns q
theorem up_set {N : List (Option Nat)} {i : Nat} {x : Option Nat} (p : Nat) (hi : i < N.length) : up (N.set i x) p = if p = i then x else up N p := by
  unfold up
  by_cases c : p = i
  · subst c; simp [List.getD_eq_getElem?_getD, hi]
  · rw [if_neg c]; simp [List.getD_eq_getElem?_getD, List.getElem?_set_ne (Ne.symm c)]
theorem up_rep (n p : Nat) : up (List.replicate n none) p = none := by
  unfold up
  rw [List.getD_eq_getElem?_getD]
  by_cases h : p < n
  · simp [h]
  · rw [List.getElem?_eq_none (by simp; omega)]; rfl
theorem Up.rep (ns : List Int) : Up ns (List.replicate ns.length none) := ⟨by simp, fun p q h => by rw [up_rep] at h; cases h⟩
theorem Up.set {ns : List Int} {N : List (Option Nat)} (h : Up ns N) {i j : Nat} (hi : i < ns.length) (hj : j < ns.length) (hv : val ns i < val ns j) : Up ns (N.set i (some j)) := by
  refine ⟨by rw [List.length_set]; exact h.1, fun p q k => ?_⟩
  rw [up_set p (by rw [h.1]; exact hi)] at k
  split at k
  · rename_i c; cases k; subst c; exact ⟨hj, hv⟩
  · exact h.2 p q k
theorem Hist.take {n : Nat} {h : List Nat} (k : Hist n h) (i : Nat) : Hist n (h.take i) := ⟨k.1.sublist (List.take_sublist ..), fun g hg => k.2 g (List.mem_of_mem_take hg)⟩
/-- the holders of a box, from the inside -/
def chF (N : List (Option Nat)) : Nat → Nat → List Nat
  | 0, _ => []
  | f + 1, p => match up N p with
    | some q => q :: chF N f q
    | none => []
def ch (N : List (Option Nat)) (p : Nat) : List Nat := chF N N.length p
end PI
end
section
set_option Elab.async false
set_option linter.all false
namespace PI
/-! ### full nestings of stretches, counted: plain -/
/-- whether a claim lets the box p be in h -/
def fitB (cs : List (Option Int)) (p h : Nat) : Bool := match cs.getD p none with
  | none => true
  | some q => decide (q = (h : Int))
/-- the stretch from x up to (not with) y, in parts, the biggest box of each being in h -/
def cntP (ns : List Int) (cs : List (Option Int)) : Nat → Nat → Nat → Nat → Nat
  | 0, _, _, _ => 1
  | f + 1, x, y, h => if y ≤ x then 1 else ((List.range (y - x)).map fun i =>
      if fitB cs (top ns x (x + i)) h = true then (cntP ns cs f x (top ns x (x + i)) (top ns x (x + i)) * cntP ns cs f (top ns x (x + i) + 1) (x + i + 1) (top ns x (x + i))) * cntP ns cs f (x + i + 1) y h else 0).sum
def cntQ (ns : List Int) (cs : List (Option Int)) (x y h : Nat) : Nat := cntP ns cs (y - x) x y h
def cntH (ns : List Int) (cs : List (Option Int)) (x e : Nat) : Nat := cntQ ns cs x (top ns x e) (top ns x e) * cntQ ns cs (top ns x e + 1) (e + 1) (top ns x e)
/-- from x on, in so many outer boxes -/
def cntO (ns : List Int) (cs : List (Option Int)) : Nat → Nat → Nat
  | 0, x => if x = ns.length then 1 else 0
  | m + 1, x => if x = ns.length then 0 else ((List.range (ns.length - x)).map fun i => cntH ns cs x (x + i) * cntO ns cs m (x + i + 1)).sum
end PI
end
section
set_option Elab.async false
set_option linter.all false
set_option maxRecDepth 100000
set_option maxHeartbeats 4000000
/-! the counter of nestings: its object, its promises -/
open PI
namespace DV
open PySem PySem.Spec PyProof.Rows L2
/-! ### data -/
def oI : Option Int → D
  | none => .non
  | some i => .int i
/-! ### what is known -/
abbrev k3 (a b c : Int) : List Key := [.inl a, .inl b, .inl c]
abbrev k2 (a b : Int) : List Key := [.inl a, .inl b]
def all3 : List (List Key) := (List.range 50).flatMap fun x => (List.range 50).flatMap fun e => (List.range 50).map fun h => k3 (x : Nat) (e : Nat) (h : Nat)
def all2 : List (List Key) := (List.range 50).flatMap fun x => (List.range 50).map fun m => k2 (x : Nat) (m : Nat)
theorem sum_const {α : Type} (l : List α) (c : Nat) : (l.map fun _ => c).sum = l.length * c := by
  induction l with
  | nil => simp
  | cons a l ih => rw [List.map_cons, List.sum_cons, ih, List.length_cons, Nat.succ_mul]; omega
theorem all3_len : all3.length = 125000 := by
  unfold all3
  simp only [List.length_flatMap, List.length_map, List.length_range, sum_const]
theorem all2_len : all2.length = 2500 := by
  unfold all2
  simp only [List.length_flatMap, List.length_map, List.length_range, sum_const]
structure Kn (ns : List Int) (cs : List (Option Int)) (kn : List (List Key × V)) : Prop where
  at_ : ∀ (x y h : Nat) (v : V), valV kn (k3 (x : Nat) ((y : Nat) - 1) (h : Nat)) = some v → v = .int (cntQ ns cs x y h : Nat)
  nd : (kn.map (·.1)).Nodup
  sub : ∀ k ∈ kn.map (·.1), k ∈ all3
theorem Kn.nil {ns : List Int} {cs : List (Option Int)} : Kn ns cs [] := ⟨fun x y h v e => (by cases e), by simp, by simp⟩
theorem Kn.len {ns : List Int} {cs : List (Option Int)} {kn : List (List Key × V)} (h : Kn ns cs kn) : kn.length < sizeLine := by
  have h1 := List.Nodup.length_le_of_subset h.nd (fun k hk => h.sub k hk)
  rw [all3_len, List.length_map] at h1
  rw [sizeLine_eq]; omega
structure Ou (ns : List Int) (cs : List (Option Int)) (ou : List (List Key × V)) : Prop where
  at_ : ∀ (x m : Nat) (v : V), valV ou (k2 (x : Nat) (m : Nat)) = some v → v = .int (cntO ns cs m x : Nat)
  nd : (ou.map (·.1)).Nodup
  sub : ∀ k ∈ ou.map (·.1), k ∈ all2
theorem Ou.nil {ns : List Int} {cs : List (Option Int)} : Ou ns cs [] := ⟨fun x m v e => (by cases e), by simp, by simp⟩
theorem Ou.len {ns : List Int} {cs : List (Option Int)} {ou : List (List Key × V)} (h : Ou ns cs ou) : ou.length < sizeLine := by
  have h1 := List.Nodup.length_le_of_subset h.nd (fun k hk => h.sub k hk)
  rw [all2_len, List.length_map] at h1
  rw [sizeLine_eq]; omega
/-! ### the object -/
def cfl (vr vc : V) (k o : Addr) : List (Str × V) := putF "own_outers" (.ref o) (putF "own_known" (.ref k) (putF "own_claim" vc (putF "own_row" vr [])))
structure CD where
  ns : List Int
  cs : List (Option Int)
  rd : D
  cd : D
  G : Hp
structure CD.Ok (c : CD) : Prop where
  dif : Dif c.ns
  len : c.ns.length < 50
  cl : c.cs.length = c.ns.length
  rs : seqOf c.rd = some (c.ns.map D.int)
  ds : seqOf c.cd = some (c.cs.map oI)
structure CAt (K : PySem.W.Frag) (C : Addr) (c : CD) (H : Hp) (p k o : Addr) : Prop where
  ok : c.Ok
  gs : GSub c.G H
  ne : k ≠ o
  ob : ∃ dx vr vc, H p = some (.ins C dx (cfl vr vc k o)) ∧ Rp K c.G vr c.rd ∧ Rp K c.G vc c.cd
  kn : ∃ kn, H k = some (.dT kn) ∧ Kn c.ns c.cs kn
  ou : ∃ ou, H o = some (.dT ou) ∧ Ou c.ns c.cs ou
  gk : c.G k = none
  go : c.G o = none
/-- all but the two dicts stays -/
def Frc (H H' : Hp) (k o : Addr) : Prop := ∀ a u, H a = some u → a ≠ k → a ≠ o → H' a = some u
theorem Frc.refl (H : Hp) (k o : Addr) : Frc H H k o := fun _ _ h _ _ => h
theorem Frc.trans {H H' H'' : Hp} {k o : Addr} (h : Frc H H' k o) (h' : Frc H' H'' k o) : Frc H H'' k o := fun a u e n m => h' a u (h a u e n m) n m
section
variable {K : PySem.W.Frag} {C : Addr} {c : CD} {H H' : Hp} {p k o : Addr}
theorem CAt.grow (h : CAt K C c H p k o) (s : ∀ a u, H a = some u → H' a = some u) : CAt K C c H' p k o := by
  obtain ⟨dx, vr, vc, h1, h2, h3⟩ := h.ob
  obtain ⟨kn, k1, k2⟩ := h.kn
  obtain ⟨ou, o1, o2⟩ := h.ou
  exact ⟨h.ok, fun a u e => s a u (h.gs a u e), h.ne, ⟨dx, vr, vc, s _ _ h1, h2, h3⟩, ⟨kn, s _ _ k1, k2⟩, ⟨ou, s _ _ o1, o2⟩, h.gk, h.go⟩
theorem Frc.grow {H' : Hp} (s : ∀ a u, H a = some u → H' a = some u) : Frc H H' k o := fun a u e _ _ => s a u e
/-! ### the promises -/
end
/-! ### the mirrors of the two defs that make a counter -/
end DV
end
section
set_option Elab.async false
set_option linter.all false
set_option maxRecDepth 100000
set_option maxHeartbeats 4000000
/-! mirrors of the defs (printed by gen2.py) -/
namespace PI
open PySem PySem.Spec PyProof.Rows L2 DV
-- _law_box (0 script, 1 k, 2 cell)
def g_Lbox : DS :=
  (dSeq (dAsg 2 (dC (.int 0))) (dSeq (dIfS (dTest (dOp gLt (dVar 1) (dCall gLen (dACons (dVar 0) dANil)))) (dAsg 2 (dOp gIx (dVar 0) (dVar 1))) dNop) (dRet (dLst (dFCons (dOp gMul (dCall gAbs (dACons (dVar 2) dANil)) (dCall gInt (dACons (dOp gGe (dCall gAbs (dACons (dVar 2) dANil)) (dOp gPow (dC (.int 10)) (dC (.int 18)))) dANil))) (dFCons (dOp gMod (dOp gMul (dOp gAdd (dOp gAdd (dOp gMod (dVar 2) (dC (.int 2147483629))) (dOp gMul (dC (.int 17417)) (dVar 1))) (dC (.int 37))) (dC (.int 40277))) (dC (.int 2147483549))) (dFCons (dC (.int 0)) dFNil)))))))
def M_Lbox : Mir := noExc (runF [.val, .val] 3 g_Lbox)
-- _law_take (0 box_here, 1 span, 2 found, 3 once)
def g_Ltake (m : Mir) : DS :=
  (dSeq (dIfS (dTest (dOp gGt (dOp gIx (dVar 0) (dC (.int 0))) (dC (.int 0)))) (dSeq (dAsg 2 (dOp gMod (dOp gIx (dVar 0) (dC (.int 0))) (dVar 1))) (dSeq (dStore (dOp gFdiv (dOp gIx (dVar 0) (dC (.int 0))) (dVar 1)) (dVar 0) (dC (.int 0))) (dRet (dVar 2)))) dNop) (dSeq (dIfS (dTest (dOp gGt (dVar 1) (dOp gPow (dC (.int 10)) (dC (.int 7))))) (dRet (dOp gMod (dOp gAdd (fzR (dFn [.io, .val] m (dACons (dVar 0) (dAFCons (dOp gPow (dC (.int 10)) (dC (.int 7))) dANil)))) (dOp gMul (dOp gPow (dC (.int 10)) (dC (.int 7))) (fzR (dFn [.io, .val] m (dACons (dVar 0) (dAFCons (dOp gAdd (dOp gFdiv (dVar 1) (dOp gPow (dC (.int 10)) (dC (.int 7)))) (dC (.int 1))) dANil)))))) (dVar 1))) dNop) (dSeq (dStore (dOp gAdd (dOp gIx (dVar 0) (dC (.int 2))) (dC (.int 1))) (dVar 0) (dC (.int 2))) (dSeq (dAsg 3 (dOp gMod (dOp gPow (dOp gAdd (dOp gIx (dVar 0) (dC (.int 1))) (dOp gMul (dC (.int 52183)) (dOp gIx (dVar 0) (dC (.int 2))))) (dC (.int 3))) (dC (.int 2147483587)))) (dRet (dOp gMod (dOp gFdiv (dOp gMod (dOp gAdd (dOp gMul (dVar 3) (dOp gAdd (dOp gMod (dVar 3) (dC (.int 30011))) (dC (.int 13)))) (dOp gMul (dOp gIx (dVar 0) (dC (.int 2))) (dC (.int 6389)))) (dC (.int 2147483647))) (dC (.int 32))) (dVar 1)))))))
def R_Ltake : Nat → Mir
  | 0 => fun _ => .stuck
  | n + 1 => noExc (runF [.io, .val] 4 (g_Ltake (R_Ltake n)))
def M_Ltake : Mir := R_Ltake 4
-- _law_pick (0 box_here, 1 some)
-- _law_shuffled (0 box_here, 1 some, 2 left, 3 found)
-- _law_sizes (0 box_here, 1 most, 2 count, 3 crack, 4 top, 5 found, 6 k, 7 way)
-- _law_gaps (0 box_here, 1 sizes_here, 2 way, 3 some)
-- _law_odd (0 box_here, 1 matter, 2 some)
-- _law_bent (0 box_here, 1 matter, 2 at, 3 made, 4 sort)
-- are_different (0 some, 1 number)
-- is_number (0 thing)
-- is_row (0 thing, 1 size)
-- is_history (0 row, 1 thing, 2 gap)
-- _law_integer (0 matter)
-- _law_is_sizes (0 matter, 1 part)
-- _law_is_tour (0 sizes_here, 1 matter, 2 part, 3 crack)
-- _law_same (0 found, 1 due, 2 mine, 3 its)
def E_Lsame_1 (m : Mir) : DE :=
  (fzR (dFn [.val, .val] m (dAFCons (dVar 2) (dAFCons (dVar 3) dANil))))
def g_Lsame (m : Mir) : DS :=
  (dSeq (dIfS (dTest (dCall gIsi (dACons (dVar 1) (dACons (dTup (dFCons (dC (.opq (.ty "list"))) (dFCons (dC (.opq (.ty "tuple"))) dFNil))) dANil)))) (dSeq (dIfS (dOrT (dTest (dOp gNe (dCall gIsi (dACons (dVar 0) (dACons (dC (.opq (.ty "list"))) dANil))) (dCall gIsi (dACons (dVar 1) (dACons (dC (.opq (.ty "list"))) dANil))))) (dTest (dOp gNe (dCall gIsi (dACons (dVar 0) (dACons (dC (.opq (.ty "tuple"))) dANil))) (dCall gIsi (dACons (dVar 1) (dACons (dC (.opq (.ty "tuple"))) dANil)))))) (dRet (dC (.bl false))) dNop) (dRet (dAndV (dOp gEq (dCall gLen (dACons (dVar 0) dANil)) (dCall gLen (dACons (dVar 1) dANil))) (dCall gAll (dACons (dLC [2, 3] (.many [2, 3]) (dIZip (dFCons (dVar 0) (dFCons (dVar 1) dFNil))) dYes (E_Lsame_1 m)) dANil))))) dNop) (dSeq (dIfS (dOrT (dTest (dOp (gIsN false) (dVar 1) (dC .non))) (dTest (dCall gIsi (dACons (dVar 1) (dACons (dC (.opq (.ty "str"))) dANil))))) (dRet (dAndV (dOp gEq (dVar 0) (dVar 1)) (dOp gEq (dCall gIsi (dACons (dVar 0) (dACons (dC (.opq (.ty "str"))) dANil))) (dCall gIsi (dACons (dVar 1) (dACons (dC (.opq (.ty "str"))) dANil)))))) dNop) (dRet (dAndV (dCall gIsi (dACons (dVar 0) (dACons (dC (.opq (.ty "int"))) dANil))) (dAndV (dOp gEq (dCall gIsi (dACons (dVar 0) (dACons (dC (.opq (.ty "bool"))) dANil))) (dCall gIsi (dACons (dVar 1) (dACons (dC (.opq (.ty "bool"))) dANil)))) (dOp gEq (dVar 0) (dVar 1)))))))
def R_Lsame : Nat → Mir
  | 0 => fun _ => .stuck
  | n + 1 => noExc (runF [.val, .val] 4 (g_Lsame (R_Lsame n)))
def M_Lsame : Mir := R_Lsame 8
-- _law_right (0 box_here, 1 sizes_here, 2 tour, 3 count, 4 matters, 5 turn, 6 bent_here, 7 matter, 8 told, 9 named, 10 due, 11 kept)
-- law (0 script, 1 k, 2 box_here, 3 turn)
-- _law_top (0 sizes_here, 1 run, 2 spot)
-- _law_moved (0 sizes_here, 1 closed, 2 crack, 3 tops, 4 run)
-- stretch_around (0 closed, 1 place, 2 count, 3 first, 4 last)
-- biggest (0 row, 1 first, 2 last)
-- move (0 row, 1 closed, 2 gap, 3 left, 4 right, 5 one, 6 other)
-- moves (0 row, 1 history, 2 index, 3 gap)
-- outer_boxes (0 row, 1 history, 2 found, 3 place, 4 first, 5 last)
-- _law_right (0 box_here, 1 sizes_here, 2 tour, 3 kept, 4 due, 5 k, 6 outs, 7 run, 8 told, 9 named)
-- law (0 script, 1 k, 2 box_here, 3 turn)
-- _law_nest (0 sizes_here, 1 tour, 2 found, 3 k, 4 inner, 5 upper)
-- _law_climb (0 nest_here, 1 spot, 2 found)
-- _law_block (0 nest_here, 1 spot, 2 mate)
-- look_place (0 row, 1 place)
-- chain (0 claim, 1 place, 2 found, 3 holder)
-- block (0 claim, 1 place, 2 other)
-- inside (0 row, 1 nesting, 2 place, 3 other)
-- around (0 row, 1 nesting, 2 place)
-- stretch (0 row, 1 nesting, 2 place, 3 some)
-- nesting_after (0 row, 1 history, 2 found, 3 one, 4 other)
-- between (0 one, 1 other)
-- is_above (0 row, 1 one, 2 other, 3 place)
-- holders (0 row, 1 place, 2 other)
-- _law_absent (0 sort, 1 sizes_here, 2 nest_here, 3 spot, 4 caught, 5 error)
-- _law_right (0 box_here, 1 sizes_here, 2 tour, 3 count, 4 nest_here, 5 kept, 6 spot, 7 some, 8 due, 9 told, 10 wide, 11 named, 12 mate, 13 sort)
-- law (0 script, 1 k, 2 box_here, 3 turn)
-- _law_all_nests (0 sizes_here, 1 found, 2 count, 3 tours, 4 turn, 5 longer, 6 some, 7 crack)
-- _law_is_claim (0 sizes_here, 1 matter, 2 spot, 3 part)
-- _law_faults (0 sizes_here, 1 guess, 2 pairs, 3 spot, 4 mate, 5 found, 6 some)
-- small_places (0 row, 1 claim, 2 pairs, 3 place, 4 holder)
-- apart_places (0 claim, 1 blocks, 2 place, 3 some)
-- evidence (0 row, 1 claim, 2 small, 3 apart)
-- is_claim (0 row, 1 thing, 2 pairs, 3 place, 4 holder)
-- is_nesting (0 row, 1 thing)
-- shows_evidence (0 row, 1 claim, 2 thing, 3 small)
-- _law_shown_right (0 sizes_here, 1 guess, 2 faults_here, 3 matters, 4 k, 5 part, 6 shown, 7 matter, 8 kept, 9 told)
-- _law_right (0 box_here, 1 sizes_here, 2 every, 3 count, 4 some, 5 matters, 6 turn, 7 k, 8 matter, 9 due, 10 fine, 11 kept, 12 faults_here, 13 want, 14 told)
-- law (0 script, 1 k, 2 box_here, 3 turn)
-- _law_tours (0 gaps, 1 found, 2 crack, 3 longer, 4 some, 5 more)
-- _law_higher (0 sizes_here, 1 spot, 2 found, 3 mate, 4 inner, 5 some)
-- _law_right (0 box_here, 1 sizes_here, 2 nests, 3 tour, 4 spot, 5 due, 6 found, 7 nest_here, 8 far)
-- law (0 script, 1 k, 2 box_here, 3 turn)
-- look_inner (0 row, 1 nesting, 2 place)
-- gap_of (0 row, 1 nesting, 2 place, 3 some)
-- needed (0 row, 1 nesting, 2 place, 3 some, 4 holder, 5 ends, 6 other)
-- move_table (0 row, 1 nesting, 2 some, 3 place, 4 holder)
-- factorial (0 number, 1 found, 2 factor)
-- count_left (0 table, 1 done, 2 rest, 3 place, 4 found, 5 other)
-- next_places (0 table, 1 done, 2 rest, 3 place, 4 some, 5 other)
-- listed (0 table, 1 done, 2 options, 3 found, 4 gap, 5 place, 6 rest)
-- all_histories (0 row, 1 nesting, 2 table, 3 many)
-- _law_shut (0 nest_here, 1 roots, 2 spot, 3 crack)
-- _law_leading (0 sizes_here, 1 nest_here, 2 tour)
-- count_histories (0 row, 1 nesting)
-- history_at (0 row, 1 nesting, 2 number, 3 table, 4 found, 5 done, 6 left, 7 options, 8 many, 9 gap, 10 place)
-- history_number (0 row, 1 history, 2 table, 3 done, 4 found, 5 closed, 6 options, 7 gap, 8 place)
-- _law_right (0 box_here, 1 sizes_here, 2 nest_here, 3 every, 4 wide, 5 kept, 6 told, 7 found, 8 turn, 9 rank, 10 tour)
-- law (0 script, 1 k, 2 box_here, 3 turn)
-- _law_told (0 sort, 1 sizes_here, 2 nest_here, 3 spot, 4 found, 5 caught, 6 error, 7 fine)
-- _law_right (0 box_here, 1 sizes_here, 2 nest_here, 3 every, 4 wide, 5 orders, 6 tour, 7 k, 8 spot, 9 due, 10 ahead, 11 some, 12 sort, 13 mate)
-- law (0 script, 1 k, 2 box_here, 3 turn)
-- _law_fan (0 by, 1 left, 2 right_here, 3 low, 4 k)
-- _law_told (0 sizes_here, 1 nest_here, 2 rank, 3 found, 4 caught, 5 error, 6 fine)
-- _law_right (0 box_here, 1 sizes_here, 2 nest_here, 3 total, 4 rank, 5 by, 6 told_here, 7 left, 8 right_here, 9 k, 10 twelve, 11 bound, 12 part)
-- law (0 script, 1 k, 2 box_here, 3 turn)
-- same_nesting (0 row, 1 one, 2 other)
-- turned (0 history, 1 index, 2 found)
-- is_free (0 row, 1 history, 2 index)
-- free_exchanges (0 row, 1 history, 2 index)
-- _law_turned (0 tour, 1 at)
-- exchanged (0 row, 1 history, 2 index)
-- _law_told (0 sizes_here, 1 tour, 2 at, 3 found, 4 caught, 5 error, 6 fine)
-- _law_right (0 box_here, 1 sizes_here, 2 tour, 3 other_tour, 4 nest_here, 5 kept, 6 due, 7 told_here, 8 free, 9 at, 10 found, 11 want)
-- law (0 script, 1 k, 2 box_here, 3 turn)
-- look_same (0 row, 1 one, 2 other)
-- exchange_plan (0 row, 1 one, 2 other, 3 here, 4 goal, 5 found, 6 wrong, 7 k)
-- exchanges_apart (0 row, 1 one, 2 other, 3 places, 4 gap, 5 index, 6 place, 7 later)
-- _law_other (0 sizes_here, 1 tour, 2 there, 3 sort, 4 caught, 5 error)
-- _law_is_plan (0 sizes_here, 1 tour, 2 there, 3 matter, 4 at, 5 nest_here, 6 here)
-- shows_exchange_plan (0 row, 1 one, 2 other, 3 thing, 4 index, 5 here)
-- _law_right (0 box_here, 1 sizes_here, 2 tour, 3 nest_here, 4 there, 5 walk, 6 turn, 7 some, 8 at, 9 best, 10 away, 11 matters, 12 bent_here, 13 matter, 14 end, 15 told, 16 due, 17 kept)
-- law (0 script, 1 k, 2 box_here, 3 turn)
-- count_nestings (0 row)
-- in_order (0 pairs, 1 known, 2 place)
-- listed_parts (0 row, 1 first, 2 last, 3 holder, 4 found, 5 end, 6 rests, 7 part, 8 rest)
-- all_nestings (0 row, 1 many, 2 found, 3 pairs, 4 nesting, 5 holder)
-- _law_all_nests (0 sizes_here, 1 found, 2 count, 3 tours, 4 turn, 5 longer, 6 some, 7 crack, 8 nest_here, 9 mate)
-- choices (0 row, 1 begun, 2 count, 3 place, 4 rest, 5 found, 6 holder, 7 many)
-- nesting_at (0 row, 1 number, 2 found, 3 left, 4 some)
-- outer_places (0 nesting, 1 place, 2 holder)
-- nesting_number (0 row, 1 nesting, 2 many, 3 found, 4 place, 5 holder, 6 other, 7 few)
-- _law_told (0 sort, 1 sizes_here, 2 what, 3 found, 4 caught, 5 error, 6 some, 7 bases)
-- _law_part (0 above, 1 below, 2 large, 3 rest)
-- gcd (0 one, 1 other)
-- reduced (0 numerator, 1 denominator, 2 common)
-- added (0 fractions, 1 found, 2 above, 3 below)
-- look_both (0 row, 1 one, 2 other)
-- distance_to_bigger (0 row, 1 begin, 2 step, 3 size, 4 place)
-- first_of_three (0 many, 1 left, 2 right, 3 only, 4 one, 5 other, 6 both)
-- around_chance (0 row, 1 one, 2 other, 3 step, 4 left, 5 above, 6 below)
-- mean_depth (0 row, 1 place, 2 other)
-- mean_inside (0 row, 1 place, 2 other)
-- holder_chance (0 row, 1 one, 2 other, 3 step, 4 near, 5 many, 6 left, 7 above, 8 below)
-- _law_together (0 sizes_here, 1 tours_here, 2 one_here, 3 other_here, 4 many_here, 5 found, 6 low, 7 high, 8 tour, 9 closed, 10 crack)
-- choose (0 some, 1 few, 2 found, 3 turn)
-- together_chance (0 row, 1 one, 2 other, 3 many, 4 gaps, 5 wanted)
-- _law_right (0 box_here, 1 sizes_here, 2 count, 3 wide, 4 tours_here, 5 nests, 6 tour, 7 climbs, 8 nest_here, 9 spot, 10 one_here, 11 depth, 12 held, 13 other_here, 14 due, 15 told, 16 direct, 17 total, 18 named, 19 many_here, 20 some)
-- law (0 script, 1 k, 2 box_here, 3 turn)
-- outer_of (0 nesting, 1 place)
-- closed_gaps (0 nesting, 1 gap)
-- open_gaps (0 nesting, 1 closed, 2 gap)
-- is_free (0 nesting, 1 place, 2 holder, 3 mates, 4 other, 5 farther)
-- takes (0 nesting, 1 place, 2 holder)
-- steps (0 row, 1 nesting, 2 gap, 3 place)
-- _law_ends (0 nest_here, 1 spot, 2 mate, 3 mine, 4 its)
-- _law_due (0 sizes_here, 1 nest_here, 2 deal, 3 at, 4 shut_here, 5 one_here, 6 other_here)
-- look_gap (0 row, 1 closed, 2 gap)
-- with_entry (0 nesting, 1 place, 2 entry)
-- look_take (0 row, 1 nesting, 2 place)
-- after_step (0 row, 1 nesting, 2 step, 3 closed, 4 one, 5 other)
-- _law_told (0 sizes_here, 1 nest_here, 2 deal, 3 found, 4 caught, 5 error, 6 some)
-- _law_right (0 box_here, 1 sizes_here, 2 nest_here, 3 wide, 4 count, 5 kept, 6 deals, 7 at, 8 good, 9 deal, 10 found, 11 due_here)
-- law (0 script, 1 k, 2 box_here, 3 turn)
-- _law_deals (0 sizes_here, 1 nest_here, 2 shut_here, 3 found, 4 crack, 5 one_here, 6 other_here, 7 spot, 8 mate, 9 mine, 10 its)
-- inner_places (0 nesting, 1 place, 2 holder)
-- kept_places (0 row, 1 one, 2 other, 3 kept, 4 place, 5 before, 6 some, 7 mate)
-- step_plan (0 row, 1 one, 2 other, 3 kept, 4 here, 5 found, 6 place, 7 rest, 8 some, 9 mate)
-- steps_apart (0 row, 1 one, 2 other)
-- is_step (0 thing)
-- shows_step_plan (0 row, 1 one, 2 other, 3 thing, 4 step, 5 here)
-- _law_is_plan (0 sizes_here, 1 nest_here, 2 there, 3 matter, 4 here, 5 deal, 6 fine, 7 some, 8 later)
-- _law_right (0 box_here, 1 sizes_here, 2 nest_here, 3 there, 4 walk, 5 turn, 6 some, 7 deal, 8 later, 9 best, 10 matters, 11 bent_here, 12 matter, 13 end, 14 told, 15 due, 16 kept, 17 four, 18 one_nest, 19 two_nest)
-- law (0 script, 1 k, 2 box_here, 3 turn)
-- _law_shortest (0 sizes_here, 1 one_here, 2 other_here, 3 tours_here, 4 count, 5 turn, 6 longer, 7 some, 8 crack)
-- next_step (0 row, 1 first, 2 last, 3 top, 4 left, 5 right)
-- deep_history (0 row, 1 place, 2 first, 3 last, 4 found)
-- fewest_moves (0 row, 1 one, 2 other)
-- greatest_depth (0 row, 1 place)
-- _law_told (0 sort, 1 sizes_here, 2 first, 3 last, 4 caught, 5 error)
-- _law_right (0 box_here, 1 sizes_here, 2 count, 3 wide, 4 nests, 5 tour, 6 spot, 7 due, 8 again, 9 nest_here, 10 crack, 11 k, 12 near, 13 m, 14 first, 15 last, 16 away, 17 sort)
-- law (0 script, 1 k, 2 box_here, 3 turn)
-- _law_deal (0 box_here, 1 state, 2 sizes_here, 3 tour, 4 gaps, 5 crack, 6 way, 7 some)
-- _law_do (0 box_here, 1 state, 2 deal_here, 3 sizes_here, 4 tour, 5 nest_here, 6 at, 7 k, 8 crack, 9 mate, 10 mine, 11 its, 12 old)
-- _law_calls (0 sizes_here, 1 tour, 2 nest_here, 3 depth, 4 count, 5 gaps_here, 6 crack, 7 found, 8 away, 9 spot, 10 mate)
-- numbers_text (0 numbers, 1 number)
-- row_text (0 row)
-- history_text (0 history)
-- nesting_text (0 nesting, 1 holder)
-- read_or_bad (0 found, 1 text)
-- number_in (0 word, 1 sign)
-- numbers_in (0 text, 1 found, 2 word)
-- gaps_or_none (0 text, 1 found, 2 gap)
-- history_or_none (0 row, 1 text, 2 found)
-- history_in (0 row, 1 text)
-- _law_changed (0 box_here, 1 written, 2 at, 3 sign, 4 ahead, 5 behind)
-- row_or_none (0 text, 1 found)
-- row_in (0 text)
-- nesting_or_none (0 row, 1 text, 2 words, 3 found, 4 word, 5 holder)
-- nesting_in (0 row, 1 text)
-- _law_told (0 sort, 1 sizes_here, 2 written, 3 found, 4 caught, 5 error, 6 fine)
-- _law_figures (0 words, 1 found, 2 word, 3 sign)
-- _law_due (0 sort, 1 sizes_here, 2 written, 3 some, 4 fine, 5 at, 6 words, 7 marks, 8 word, 9 nest_here, 10 pairs, 11 spot, 12 mate)
-- _law_right (0 box_here, 1 sizes_here, 2 tour, 3 nest_here, 4 words, 5 crack, 6 signs, 7 mate, 8 due_here, 9 size_now, 10 told_here, 11 named, 12 made, 13 sort, 14 tries, 15 turn, 16 written, 17 some, 18 wide, 19 heard, 20 part)
-- law (0 script, 1 k, 2 box_here, 3 turn)
-- is_within (0 row)
-- _law_ask (0 box_here, 1 count, 2 first, 3 last, 4 word)
-- _law_words (0 matter, 1 part)
-- _law_row (0 deal, 1 part)
-- _law_flags (0 caught, 1 some)
def g_Lflags : DS :=
  (dSeq (dFz 1 (dAsg 1 (dLst (dFCons (dIsX XAll (dVar 0) ["Duplicate"]) (dFCons (dIsX XAll (dVar 0) ["NotFull"]) (dFCons (dIsX XAll (dVar 0) ["OtherNesting"]) dFNil)))))) (dSeq (dFz 1 (dAsg 1 (dOp gAdd (dVar 1) (dLst (dFCons (dIsX XAll (dVar 0) ["BadText"]) (dFCons (dIsX XAll (dVar 0) ["BadLine"]) (dFCons (dIsX XAll (dVar 0) ["NoBox"]) dFNil))))))) (dSeq (dFz 1 (dAsg 1 (dOp gAdd (dVar 1) (dLst (dFCons (dIsX XAll (dVar 0) ["NoGap"]) (dFCons (dIsX XAll (dVar 0) ["NoIndex"]) (dFCons (dIsX XAll (dVar 0) ["NoNumber"]) dFNil))))))) (dSeq (dFz 1 (dAsg 1 (dOp gAdd (dVar 1) (dLst (dFCons (dIsX XAll (dVar 0) ["NoState"]) (dFCons (dIsX XAll (dVar 0) ["Closed"]) (dFCons (dIsX XAll (dVar 0) ["Outer"]) dFNil))))))) (dSeq (dFz 1 (dAsg 1 (dOp gAdd (dVar 1) (dLst (dFCons (dIsX XAll (dVar 0) ["Stuck"]) (dFCons (dIsX XAll (dVar 0) ["Blocked"]) (dFCons (dIsX XAll (dVar 0) ["TooMany"]) dFNil))))))) (dRet (dOp gAdd (dVar 1) (dLst (dFCons (dIsX XAll (dVar 0) ["Full"]) dFNil)))))))))
def M_Lflags : Mir := noExc (runF [.val] 2 g_Lflags)
-- _law_one_right (0 at, 1 caught, 2 some, 3 k, 4 group, 5 bases, 6 odd)
def E_Lone_right_1 : DE :=
  (dOp gEq (dVar 3) (dVar 0))
def E_Lone_right_2 : DE :=
  (dOp gEq (dVar 3) (dVar 4))
def g_Lone_right : DS :=
  (dSeq (dFz 2 (dAsg 2 (dLC [3] (.one 3) (dIRg onRg1 (dACons (dC (.int 16)) dANil)) dYes E_Lone_right_1))) (dSeq (dAsg 4 (dIf (dTest (dOp gLt (dVar 0) (dC (.int 5)))) (dC (.int 0)) (dIf (dTest (dOp gLt (dVar 0) (dC (.int 10)))) (dC (.int 1)) (dIf (dTest (dOp gLt (dVar 0) (dC (.int 14)))) (dC (.int 2)) (dC (.int 3)))))) (dSeq (dAsg 5 (dLst (dFCons (dIsX XAll (dVar 1) ["ValueError"]) (dFCons (dIsX XAll (dVar 1) ["LookupError"]) (dFCons (dIsX XAll (dVar 1) ["RuntimeError"]) dFNil))))) (dSeq (dDrop (dMut "list" gApp (dVar 5) (dFCons (dIsX XAll (dVar 1) ["OverflowError"]) dFNil))) (dSeq (dAsg 6 (dIsX XAll (dVar 1) ["IndexError", "KeyError", "NotImplementedError"])) (dRet (dAndV (dOp gEq (fzR (dFn [.val] M_Lflags (dAFCons (dVar 1) dANil))) (dVar 2)) (dAndV (dOp gEq (dLC [3] (.one 3) (dIRg onRg1 (dACons (dC (.int 4)) dANil)) dYes E_Lone_right_2) (dVar 5)) (dNotV (dVar 6))))))))))
def M_Lone_right : Mir := noExc (runF [.val, .val] 7 g_Lone_right)
-- _law_right (0 box_here, 1 spot_now, 2 rank, 3 written, 4 made, 5 more, 6 some, 7 told, 8 due, 9 at, 10 caught)
def E_Lright_k25_1 : DE :=
  (fzR (dFn [.val, .val] M_Lone_right (dAFCons (dVar 9) (dAFCons (dVar 10) dANil))))
def B_Lright_k25_1 : DS :=
  (dSeq (dIfS (dNotT (dTest (dCall gAll (dACons (dLC [9, 10] (.many [9, 10]) (dIEnum (dVar 6)) dYes E_Lright_k25_1) dANil)))) (dRet (dC (.bl false))) dNop) (dSeq (dFz 7 (dAsg 7 (dLst (dFCons (dXf XAll (dOp gIx (dVar 6) (dC (.int 0))) "size") (dFCons (dXf XAll (dOp gIx (dVar 6) (dC (.int 1))) "many") (dFCons (dXf XAll (dOp gIx (dVar 6) (dC (.int 3))) "text") (dFCons (dXf XAll (dOp gIx (dVar 6) (dC (.int 4))) "number") (dFCons (dXf XAll (dOp gIx (dVar 6) (dC (.int 5))) "place") (dFCons (dXf XAll (dOp gIx (dVar 6) (dC (.int 6))) "gap") (dFCons (dXf XAll (dOp gIx (dVar 6) (dC (.int 7))) "index") dFNil)))))))))) (dSeq (dFz 7 (dAsg 7 (dOp gAdd (dVar 7) (dLst (dFCons (dXf XAll (dOp gIx (dVar 6) (dC (.int 8))) "number") (dFCons (dXf XAll (dOp gIx (dVar 6) (dC (.int 9))) "many") (dFCons (dXf XAll (dOp gIx (dVar 6) (dC (.int 10))) "gap") (dFCons (dXf XAll (dOp gIx (dVar 6) (dC (.int 11))) "place") (dFCons (dXf XAll (dOp gIx (dVar 6) (dC (.int 12))) "place") (dFCons (dXf XAll (dOp gIx (dVar 6) (dC (.int 13))) "index") dFNil)))))))))) (dSeq (dFz 8 (dAsg 8 (dLst (dFCons (dVar 2) (dFCons (dVar 1) (dFCons (dVar 3) (dFCons (dVar 1) (dFCons (dVar 1) (dFCons (dVar 1) (dFCons (dVar 1) (dFCons (dVar 2) (dFCons (dVar 2) (dFCons (dVar 1) dFNil))))))))))))) (dSeq (dFz 8 (dAsg 8 (dOp gAdd (dVar 8) (dLst (dFCons (dVar 1) (dFCons (dVar 1) (dFCons (dVar 1) dFNil))))))) (dIfS (dNotT (dTest (fzR (dFn [.val, .val] M_Lsame (dAFCons (dOp gAdd (dVar 7) (dLst (dFCons (dXf XAll (dOp gIx (dVar 6) (dC (.int 14))) "many") (dFCons (dXf XAll (dOp gIx (dVar 6) (dC (.int 15))) "many") dFNil)))) (dAFCons (dOp gAdd (dVar 8) (dLst (dFCons (dVar 2) (dFCons (dC (.int 12)) dFNil)))) dANil)))))) (dRet (dC (.bl false))) dNop))))))
def g_Lright_k25 : DS :=
  (dSeq (dFz 3 (dTupAsg [1, 2, 3] (dACons (dOp gSub (fzR (dFn [.io, .val] M_Ltake (dACons (dVar 0) (dAFCons (dC (.int 50)) dANil)))) (dC (.int 1))) (dACons (dOp gSub (fzR (dFn [.io, .val] M_Ltake (dACons (dVar 0) (dAFCons (dOp gPow (dC (.int 10)) (dC (.int 9))) dANil)))) (dC (.int 5))) (dACons (dOp gAdd (dOp gAdd (dC (.str "1 ")) (dCall gStr (dACons (fzR (dFn [.io, .val] M_Ltake (dACons (dVar 0) (dAFCons (dC (.int 99)) dANil)))) dANil))) (dC (.str " x"))) dANil))))) (dSeq (dFz 4 (dAsg 4 (dLst (dFCons (dMkX "Duplicate" "size" (dVar 2)) (dFCons (dMkX "NotFull" "many" (dVar 1)) (dFCons (dMkX0 "OtherNesting") (dFCons (dMkX "BadText" "text" (dVar 3)) (dFCons (dMkX "BadLine" "number" (dVar 1)) dFNil)))))))) (dSeq (dFz 4 (dAsg 4 (dOp gAdd (dVar 4) (dLst (dFCons (dMkX "NoBox" "place" (dVar 1)) (dFCons (dMkX "NoGap" "gap" (dVar 1)) (dFCons (dMkX "NoIndex" "index" (dVar 1)) (dFCons (dMkX "NoNumber" "number" (dVar 2)) (dFCons (dMkX "NoState" "many" (dVar 2)) dFNil))))))))) (dSeq (dFz 4 (dAsg 4 (dOp gAdd (dVar 4) (dLst (dFCons (dMkX "Closed" "gap" (dVar 1)) (dFCons (dMkX "Outer" "place" (dVar 1)) (dFCons (dMkX "Stuck" "place" (dVar 1)) (dFCons (dMkX "Blocked" "index" (dVar 1)) dFNil)))))))) (dSeq (dFz 4 (dAsg 4 (dOp gAdd (dVar 4) (dLst (dFCons (dMkX "TooMany" "many" (dVar 2)) (dFCons (dMkX "Full" "many" (dC (.int 12))) dFNil)))))) (dSeq (dFz 5 (dAsg 5 (dLst (dFCons (dMkX "Duplicate" "size" (dVar 2)) (dFCons (dMkX "NotFull" "many" (dVar 1)) (dFCons (dMkX0 "OtherNesting") (dFCons (dMkX "BadText" "text" (dVar 3)) (dFCons (dMkX "BadLine" "number" (dVar 1)) dFNil)))))))) (dSeq (dFz 5 (dAsg 5 (dOp gAdd (dVar 5) (dLst (dFCons (dMkX "NoBox" "place" (dVar 1)) (dFCons (dMkX "NoGap" "gap" (dVar 1)) (dFCons (dMkX "NoIndex" "index" (dVar 1)) (dFCons (dMkX "NoNumber" "number" (dVar 2)) dFNil)))))))) (dSeq (dFz 5 (dAsg 5 (dOp gAdd (dVar 5) (dLst (dFCons (dMkX "NoState" "many" (dVar 2)) dFNil))))) (dSeq (dFz 5 (dAsg 5 (dOp gAdd (dVar 5) (dLst (dFCons (dMkX "Closed" "gap" (dVar 1)) (dFCons (dMkX "Outer" "place" (dVar 1)) (dFCons (dMkX "Stuck" "place" (dVar 1)) (dFCons (dMkX "Blocked" "index" (dVar 1)) dFNil)))))))) (dSeq (dFz 5 (dAsg 5 (dOp gAdd (dVar 5) (dLst (dFCons (dMkX "TooMany" "many" (dVar 2)) (dFCons (dMkX "Full" "many" (dC (.int 12))) dFNil)))))) (dSeq (dKB [6, 7, 8] (dFor (.one 6) (dISeq (dTup (dFCons (dVar 4) (dFCons (dVar 5) dFNil)))) (dKA [6, 7, 8] B_Lright_k25_1))) (dRet (dC (.bl true))))))))))))))
def M_Lright_k25 : Mir := noExc (runF [.io] 11 g_Lright_k25)
-- law (0 script, 1 k, 2 box_here, 3 turn)
def E_law_k25_1 : DE :=
  (fzR (dFn [.io] M_Lright_k25 (dACons (dVar 2) dANil)))
def B_law_k25_1 : DS :=
  (dSeq (dAsg 2 (dFn [.val, .val] M_Lbox (dAFCons (dVar 0) (dAFCons (dVar 1) dANil)))) (dIfS (dNotT (dTest (dCall gAll (dACons (dLC [3] (.one 3) (dIRg onRg1 (dACons (dC (.int 2)) dANil)) dYes E_law_k25_1) dANil)))) (dRet (dC (.bl false))) dNop))
def g_law_k25 : DS :=
  (dSeq (dKB [1, 2] (dFor (.one 1) (dIRg onRg1 (dACons (dOp gAdd (dC (.int 1)) (dCall gMin2 (dACons (dC (.int 3)) (dACons (dCall gLen (dACons (dVar 0) dANil)) dANil)))) dANil)) (dKA [1, 2] B_law_k25_1))) (dRet (dC (.bl true))))
def M_law_k25 : Mir := noExc (runF [.val] 4 g_law_k25)
-- _law_row_right (0 scale, 1 by, 2 sizes, 3 part, 4 one_way, 5 two_way, 6 told, 7 spot)
-- _law_rising_right (0 scale, 1 by, 2 sizes, 3 part, 4 told, 5 count, 6 four, 7 spot, 8 steep, 9 flat)
-- _law_valley_right (0 scale, 1 by, 2 sizes, 3 part, 4 told, 5 low)
-- _law_right (0 box_here, 1 scale, 2 by)
-- law (0 script, 1 k, 2 box_here, 3 turn)
-- _law_asked (0 at, 1 sizes_here, 2 tour, 3 nest_here, 4 guess, 5 spot_now, 6 spot, 7 told)
-- _law_end_right (0 sizes_here, 1 tour, 2 count, 3 nest, 4 top_here, 5 rest, 6 k, 7 at, 8 found, 9 run, 10 mate)
-- _law_right (0 box_here, 1 sizes_here, 2 tour, 3 count, 4 before, 5 k, 6 begun, 7 due, 8 free, 9 outs, 10 nest, 11 tops, 12 run, 13 inner, 14 upper, 15 at, 16 mate, 17 part)
-- law (0 script, 1 k, 2 box_here, 3 turn)
-- _law_wild (0 box_here, 1 sizes_here, 2 first, 3 last, 4 top_here, 5 found, 6 begin, 7 end, 8 far, 9 some)
-- _law_some_nest (0 box_here, 1 sizes_here, 2 way, 3 nest_here, 4 begin, 5 far, 6 at, 7 upper)
-- _law_shown (0 sizes_here, 1 guess, 2 fault, 3 some)
-- _law_side_by_side (0 some)
-- _law_right (0 box_here, 1 sizes_here, 2 nest_here, 3 count, 4 tour, 5 turn, 6 at, 7 entry, 8 guess, 9 fault, 10 low, 11 due, 12 k, 13 shown_here, 14 told, 15 far, 16 mate)
-- law (0 script, 1 k, 2 box_here, 3 turn)
-- _law_product (0 few, 1 found, 2 k)
-- _law_right (0 box_here, 1 sizes_here, 2 nest, 3 inner_now, 4 at, 5 mate, 6 hooks, 7 due, 8 some, 9 k, 10 low, 11 every)
-- law (0 script, 1 k, 2 box_here, 3 turn)
-- _law_random_tour (0 box_here, 1 sizes_here, 2 nest_here, 3 tour, 4 rest, 5 fine, 6 crack, 7 mine, 8 inner, 9 upper, 10 run)
-- _law_missing (0 sizes_here, 1 nest_here, 2 rank, 3 caught, 4 error)
-- _law_right (0 box_here, 1 sizes_here, 2 nest_here, 3 total, 4 ranks, 5 found, 6 rank, 7 tour)
-- law (0 script, 1 k, 2 box_here, 3 turn)
-- _law_frees (0 sizes_here, 1 nest_here, 2 tour, 3 boxes, 4 k)
-- _law_apart (0 tour, 1 there, 2 found, 3 k, 4 j)
-- _law_right (0 box_here, 1 sizes_here, 2 nest_here, 3 total, 4 some, 5 k, 6 far, 7 tour, 8 here, 9 at, 10 other_tour)
-- law (0 script, 1 k, 2 box_here, 3 turn)
-- _law_table (0 sizes_here, 1 held, 2 parts, 3 count, 4 wide, 5 begin, 6 end, 7 top_here, 8 ways, 9 cut)
-- _law_outers (0 held, 1 count, 2 found, 3 end, 4 few, 5 ways, 6 cut)
-- _law_right (0 box_here, 1 sizes_here, 2 held, 3 parts, 4 count, 5 total, 6 outers_here, 7 few, 8 wide, 9 nest, 10 guess, 11 before, 12 at, 13 ways, 14 upper, 15 bad, 16 k)
-- law (0 script, 1 k, 2 box_here, 3 turn)
-- _law_code (0 nest_here, 1 mate)
-- _law_shares_right (0 sizes_here, 1 every, 2 weights, 3 nest, 4 total, 5 at, 6 upper, 7 direct, 8 within, 9 told, 10 few)
-- _law_sum_of (0 parts, 1 above, 2 below, 3 part_here, 4 small)
-- _law_right (0 box_here, 1 sizes_here, 2 count, 3 top_here, 4 at, 5 held, 6 near, 7 one_part, 8 more, 9 upper, 10 depths)
-- law (0 script, 1 k, 2 box_here, 3 turn)
-- _law_drawn (0 gaps, 1 wanted, 2 many_here, 3 above, 4 below, 5 k)
-- _law_right (0 box_here, 1 sizes_here, 2 count, 3 first, 4 last, 5 wanted, 6 before, 7 others, 8 many_here, 9 told, 10 far)
-- law (0 script, 1 k, 2 box_here, 3 turn)
-- _law_ahead (0 nest, 1 at, 2 some, 3 upper, 4 ends, 5 k)
-- _law_stays (0 nest, 1 there, 2 at, 3 some, 4 before, 5 k)
-- _law_far (0 nest, 1 there, 2 moved, 3 k, 4 at)
-- _law_right (0 box_here, 1 sizes_here, 2 some, 3 k, 4 here, 5 taken, 6 turn, 7 deals, 8 far_here, 9 stay, 10 at, 11 tour, 12 deal, 13 there, 14 moved)
-- law (0 script, 1 k, 2 box_here, 3 turn)
-- _law_right (0 box_here, 1 sizes_here, 2 count, 3 nest_here, 4 at, 5 above, 6 tour, 7 found, 8 rising, 9 k, 10 first, 11 last, 12 low)
-- law (0 script, 1 k, 2 box_here, 3 turn)
-- _law_all (0 sizes_here, 1 tour, 2 nest_here, 3 guess, 4 count, 5 empty, 6 told, 7 at)
-- _law_right (0 box_here, 1 sizes_here, 2 tour, 3 nest_here, 4 guess, 5 mate, 6 at, 7 k, 8 scale, 9 by, 10 names, 11 top_here, 12 part, 13 due, 14 alike, 15 some)
-- law (0 script, 1 k, 2 box_here, 3 turn)
-- _law_back (0 nest, 1 last, 2 mate)
-- _law_boxes_right (0 box_here, 1 sizes_here, 2 nest, 3 last, 4 back_here, 5 at, 6 run, 7 upper, 8 told, 9 due, 10 k)
-- _law_right (0 box_here, 1 sizes_here, 2 tour, 3 last, 4 back_here, 5 nest, 6 there, 7 tour_back, 8 crack, 9 inner, 10 upper, 11 some, 12 deal)
-- law (0 script, 1 k, 2 box_here, 3 turn)
-- _law_boxes_right (0 box_here, 1 sizes_here, 2 sides, 3 mid, 4 at, 5 shift, 6 upper, 7 told, 8 due, 9 deep, 10 side, 11 k, 12 some)
-- _law_mixed (0 many_here, 1 few, 2 found, 3 k)
-- _law_right (0 box_here, 1 left, 2 right_here, 3 mid, 4 top_here, 5 part, 6 sides, 7 sizes_here, 8 one_nest, 9 two_nest, 10 nest, 11 mate, 12 ways, 13 side, 14 guess, 15 known, 16 k, 17 both, 18 others, 19 there, 20 far)
-- law (0 script, 1 k, 2 box_here, 3 turn)
-- _law_rising_right (0 by, 1 sizes, 2 k, 3 told, 4 ends, 5 wide, 6 steep, 7 flat)
-- _law_middle_right (0 by, 1 sizes, 2 k, 3 nest, 4 first, 5 last, 6 told)
-- _law_records (0 sizes_here, 1 at)
-- _law_bigger (0 sizes_here, 1 at, 2 way, 3 size_now, 4 far)
-- _law_behind (0 many_here, 1 left, 2 right_here, 3 only, 4 total, 5 ways)
-- _law_pair (0 sizes_here, 1 at, 2 upper, 3 way, 4 many_here, 5 beyond, 6 near, 7 told, 8 direct)
-- _law_right (0 box_here, 1 sizes_here, 2 count, 3 pairs, 4 at, 5 upper, 6 told, 7 part_here, 8 some)
-- law (0 script, 1 k, 2 box_here, 3 turn)
end PI
end
set_option maxRecDepth 100000
local macro_rules | `(tactic| walk_at "ds") => `(tactic| simp -implicitDefEqProofs only [
  DV.n_s_mkX, DV.kMk, DV.s_kMkO, DV.n_s_mkX0, DV.n_s_raise0, DV.n_s_setLenV, DV.s_onSLV, DV.n_s_fnMv, DV.s_kMv, DV.s_kMvN, DV.n_s_slS, DV.kSlS, DV.kSlS1, DV.kSlS2, DV.s_onSlS, DV.n_dictK, DV.n_s_storeK, DV.kStK, DV.s_onStK1, DV.kStK2, DV.kStK3, DV.s_onStK, DV.s_stSKo, DV.s_getKi, DV.s_getKs, DV.s_putKi, DV.s_putKs, DV.s_kMt1S, DV.n_s_istr, DV.kIStr, DV.s_onIStr, DV.n_s_trg2, DV.kTRg1, DV.kTRg2, DV.s_onTRg, DV.n_s_sl3T, DV.kSl3T, DV.kSl3T1, DV.kSl3T2, DV.kSl3T3, DV.s_onSl3T, DV.s_sl3TL, DV.s_sl3TT, DV.s_ins, DV.n_s_storeSl, DV.kStSl, DV.s_onStSl0, DV.kStSl1, DV.kStSl2, DV.kStSl3, DV.s_onStSl, DV.s_onStSl2, DV.n_s_pick3, DV.s_kPick3, DV.n_dictT, DV.n_oneT, DV.n_s_storeT, DV.kStT, DV.s_onStT1, DV.kStT2, DV.kStT3, DV.s_onStT, DV.s_stSTo, DV.n_s_getT2, DV.s_kT1, DV.s_oT1, DV.s_kT2, DV.s_kT3, DV.s_gT3, DV.n_s_appT, DV.kAppT, DV.s_onApp, DV.s_endE, DV.s_endX, DV.s_outE, DV.kRaise, DV.n_s_raise, DV.s_kRz, DV.n_s_try, DV.s_kTryV, DV.s_kTryX, DV.s_kTryE, DV.s_putL, DV.s_putN, DV.n_s_isX, DV.kIsX, DV.s_kIsO, DV.s_kIsB, DV.n_s_xf, DV.kXf, DV.s_kXfO, DV.s_kXfB, DV.isN_exn, DV.notN_exn, DV.n_s_orL, DV.s_kOrL, DV.s_kOrO0, DV.s_kOrO1, DV.n_s_ifT, DV.kIfT, DV.n_s_dictP, DV.s_kDP, DV.s_kDO, DV.s_onDP, DV.n_s_get2, DV.s_kG1, DV.s_onG1, DV.s_kG2, DV.s_onG2, DV.s_kG3, DV.lk0, DV.lk1, DV.lk2, DV.lk3, DV.lk4, DV.lk5, DV.lk6, DV.lk7, DV.n_s_ikeys, DV.kKy, DV.s_onKy, DV.n_s_dc, DV.kDC, DV.kDcE, DV.n_s_lrg3, DV.kLRg33, DV.kLRg32, DV.kLRg31, DV.s_on3, DV.s_lrg3o, DV.n_s_setLen, DV.kSL, DV.lenK_ints, DV.s_isBl, DV.s_eqS, DV.s_neS, DV.n_s_mt, DV.kMt, DV.s_kMt1L, DV.kMt2, DV.n_s_fzR, DV.s_kFzv, DV.s_kFzt, DV.s_kFzi, DV.s_kFzs, DV.s_kFzS1, DV.s_kFzS2, DV.n_s_kb, DV.n_s_ka, DV.s_wdn, DV.s_wdc, DV.s_wdb, DV.s_wdr, DV.n_s_dfz, DV.s_fzn, DV.s_fzG1, DV.s_fzG2, DV.s_fzG3, DV.wl_nil, DV.wl_cons, DV.n_s_ien, DV.s_kien, DV.s_kient, DV.s_onEnL, DV.s_onEnT, DV.s_kiens, DV.s_kiens1, DV.s_kiens2, DV.n_s_fnK, DV.kFnK, DV.prm_nil, DV.prm_cons, List.map_cons, List.map_nil, DV.S0.s_vr4, DV.S0.s_vr5, DV.n_s_frame, DV.s_exn, DV.s_exr, DV.n_s_asgN, DV.kAsgN, DV.s_onNst, DV.s_nst0, DV.s_nstv, DV.s_nstl, DV.n_s_asgN1, DV.s_onNst1, DV.n_s_wreck, DV.s_wrS, DV.s_en1, DV.s_en2, DV.s_en3, DV.s_en4, DV.s_en5, DV.s_en6, DV.s_ex1, DV.s_ex2, DV.s_ex3, DV.s_ex4, DV.s_ex5, DV.s_re1, DV.s_re2, DV.s_re3, DV.s_re4, DV.s_re5, DV.s_re6, DV.s_tg0, DV.s_tgk, List.all_cons, List.all_nil, Nat.reduceLT, DV.n_s_op, DV.n_s_test, DV.n_s_notT, DV.n_s_andT, DV.n_s_orT, DV.n_s_andV, DV.n_s_orV, DV.n_s_notV, DV.n_s_if, DV.n_s_onC, DV.n_s_chLeLt, DV.n_s_chLeLe, DV.n_s_chLtLe, DV.n_s_un, DV.n_s_ACons, DV.n_s_FCons, DV.n_s_AFCons, DV.n_s_lst, DV.n_s_tup, DV.n_s_call, DV.n_s_seq, DV.n_s_drop, DV.n_s_ret, DV.n_s_ifS, DV.n_s_asg, DV.n_s_augS, DV.n_s_tupAsg, DV.n_s_for, DV.n_whL_succ, DV.n_s_iseq, DV.n_s_irg, DV.n_s_izip, DV.n_s_lc, DV.n_lcL_cons, DV.n_s_fn, DV.n_s_mut, DV.n_s_store, DV.n_s_oSome, DV.n_s_sl, DV.n_s_sl3, DV.n_s_lrg1, DV.n_s_lrg2, DV.S0.loop_nx, DV.S0.loop_ct, DV.S0.loop_brk, DV.S0.loop_ret, DV.S0.loop_exc, DV.S0.loop_stuck, DV.S0.s_onG, DV.S0.s_onG0, DV.S0.s_onB, DV.S0.s_onI, DV.S0.s_onN, DV.S0.s_pkv, DV.S0.s_pkt, DV.S0.s_pks, DV.S0.s_pkS1, DV.S0.s_pkS2, DV.S0.s_pkS3, DV.S0.s_var, DV.S0.s_vr1, DV.S0.s_vr2, DV.S0.s_vr3, DV.S0.s_C, DV.S0.s_on, DV.S0.s_onV, DV.S0.s_onU, DV.S0.s_neg, DV.S0.s_II, DV.S0.s_IC, DV.S0.s_addI, DV.S0.s_addL, DV.S0.s_addT, DV.S0.s_addS, DV.S0.s_mulI, DV.S0.s_mulL, DV.S0.s_ixL, DV.S0.s_ixT, DV.S0.s_ixC, DV.S0.s_ANil, DV.S0.s_FNil, DV.S0.s_onF, DV.S0.s_fzv, DV.S0.s_fzt, DV.S0.s_fzs, DV.S0.s_fzS1, DV.S0.s_fzS2, DV.S0.s_peeks0, DV.S0.s_cons2, DV.S0.s_peeks, DV.S0.s_onLs, DV.S0.s_onL, DV.S0.s_lenL, DV.S0.s_lenT, DV.S0.s_lenC, DV.S0.s_listL, DV.S0.s_listT, DV.S0.s_tupleL, DV.S0.s_tupleT, DV.S0.s_intI, DV.S0.s_intB, DV.S0.s_abs, DV.S0.s_max2, DV.S0.s_min2, DV.S0.s_all, DV.S0.s_any, DV.S0.s_sum, DV.S0.s_asgv, DV.S0.s_asgt, DV.S0.s_asgs, DV.S0.s_asgS1, DV.S0.s_asgS2, DV.S0.s_asgS3, DV.S0.s_aug, DV.S0.s_onT, DV.S0.s_fzS0, DV.S0.s_fzSv, DV.S0.s_fzSt, DV.S0.s_fzSs, DV.S0.s_fzSk, DV.S0.s_many0, DV.S0.s_manyv, DV.S0.s_manyt, DV.S0.forL_nil, DV.S0.s_tg1, DV.S0.s_tgm, DV.S0.s_vals0, DV.S0.s_vals, DV.S0.s_itL, DV.S0.s_itT, DV.S0.s_rs1, DV.S0.s_rs2, DV.S0.s_onZL, DV.S0.s_onZT, DV.S0.lcL_nil, DV.S0.s_yes, DV.S0.s_onA, DV.S0.s_arg0, DV.S0.s_argV, DV.S0.s_argv, DV.S0.s_argB, DV.S0.s_argb, DV.S0.s_argi, DV.S0.s_setIo0, DV.S0.s_out0, DV.S0.s_out1, DV.S0.s_out1o, DV.S0.s_muO, DV.S0.s_onMut, DV.S0.s_onRc, DV.S0.s_rc, DV.S0.s_rcL, DV.S0.s_app, DV.S0.s_ext, DV.S0.s_popO, DV.S0.s_popAt, DV.S0.s_onFf, DV.S0.s_onSt, DV.S0.s_stO, DV.S0.s_gSt, DV.S0.s_stSo, DV.S0.s_stSi, DV.S0.s_onMuo, DV.S0.s_onMui, DV.S0.s_argIo, DV.S0.s_argIi, DV.S0.s_oNone, DV.S0.s_slL, DV.S0.s_slT, DV.S0.s_sl3L, DV.S0.s_run, DV.S0.s_endN, DV.S0.s_endR, DV.S0.s_endRp, DV.S0.s_endO, DV.S0.s_noExc, DV.S0.s_noX, DV.S0.s_resv, DV.S0.s_rest, DV.S0.s_ress, DV.S0.s_resS1, DV.S0.s_resS2, DV.S0.s_outs0, DV.S0.s_outC, DV.S0.s_outs, DV.S0.s_outAt, DV.S0.s_outS, DV.S0.s_ioIx0, DV.S0.s_ioIxv, DV.S0.s_ioIxb, DV.S0.s_ioIxi, DV.S0.s_init0, DV.S0.s_initv, DV.S0.s_initb, DV.S0.s_initi, DV.S0.s_wipe0, DV.S0.s_wipe, DV.S0.s_ap0, DV.S0.s_apv, DV.S0.s_api, DV.S0.s_apbv, DV.S0.s_apbt, DV.S0.s_apbs, DV.kOp2, DV.kOp, DV.kTest, DV.kNotT, DV.kAndT, DV.kOrT, DV.kBl, DV.kAndV, DV.kOrV, DV.kNotV, DV.kIf, DV.kCh2, DV.kCh, DV.kUn, DV.kAC2, DV.kAC, DV.kFC3, DV.kFC2, DV.kFC, DV.kAFC3, DV.kAFC2, DV.kAFC, DV.kLst, DV.kTup, DV.kCall, DV.kDrop, DV.kRet, DV.kIfS, DV.kAsg, DV.kAug, DV.kT, DV.kFor, DV.kWh, DV.kISeq, DV.kIRg, DV.kLC2, DV.kLC, DV.kL3, DV.kL2, DV.kL1, DV.kFn, DV.kMut3, DV.kMut2, DV.kMut, DV.kSt4, DV.kSt3, DV.kSt2, DV.kSt, DV.kOS, DV.kSl2, DV.kSl1, DV.kSl, DV.kSl33, DV.kSl32, DV.kSl31, DV.kSl3, DV.kLRg1, DV.kLRg22, DV.kLRg2, DV.kC2, DV.kC,
  DV.Rs.bind_ok, DV.Rs.bind_stuck, DV.Rs.bind_exc, DV.Rs.fl_ok, DV.Rs.fl_stuck, DV.Rs.fl_exc, DV.Rs.wp_ok, DV.Fl.seq_nx, DV.Fl.seq_ret, DV.Fl.seq_brk, DV.Fl.seq_ct, DV.Fl.seq_stuck, DV.Fl.seq_exc,
  List.getElem?_cons_zero, List.getElem?_cons_succ, List.getElem?_nil, List.set_cons_zero, List.set_cons_succ, List.set_nil, List.cons_append, List.nil_append, List.append_nil, List.replicate, List.length_cons, List.length_nil, Nat.reduceAdd, Nat.reduceSub, Nat.zero_add, List.contains_nil, List.contains_cons, DV.startL,
  Bool.and_true, Bool.true_and, Bool.and_false, Bool.false_and, Bool.or_true, Bool.true_or, Bool.or_false, Bool.false_or, Bool.not_true, Bool.not_false, if_true, if_false, reduceIte, reduceCtorEq, decide_true, decide_false, decide_eq_true_eq, Option.map_some, Option.map_none, Option.some_or, Option.none_or, Option.bind_some, Option.bind_none, Bool.false_eq_true, Nat.reduceLeDiff, Nat.reduceEqDiff, beq_iff_eq, Nat.reduceBEq, ne_eq, not_true_eq_false, not_false_eq_true, Option.some.injEq, Bool.not_eq_true', decide_eq_false_iff_not, Bool.not_not, L2.ixN, DV.atI_0, DV.atI_1, DV.atI_2, DV.atI_3, DV.atI_4, DV.atI_5, DV.atI_6, DV.atI_7, DV.atI_8, DV.atI_9, DV.atI_10, DV.atI_11, DV.atI_12, DV.atI_13, DV.atI_14, DV.atI_15, DV.atI_m1, DV.s_eqI, DV.s_neI, DV.s_eqB, DV.s_neB, Int.reduceLE, Int.reduceLT, Int.reduceNeg, Int.reduceToNat, Int.reduceAdd, Int.reduceMul, Int.reduceSub, Int.le_refl, Int.cast_ofNat_Int, Int.toNat_zero, Int.toNat_one, Int.reducePow, true_and, and_true, DV.isi_non_int, DV.isi_non_bool, DV.isi_non_str, DV.isi_non_list, DV.isi_non_tuple, DV.isi_non_seq, DV.isN_non, DV.isi_bl_int, DV.isi_bl_bool, DV.isi_bl_str, DV.isi_bl_list, DV.isi_bl_tuple, DV.isi_bl_seq, DV.isN_bl, DV.isi_int_int, DV.isi_int_bool, DV.isi_int_str, DV.isi_int_list, DV.isi_int_tuple, DV.isi_int_seq, DV.isN_int, DV.isi_str_int, DV.isi_str_bool, DV.isi_str_str, DV.isi_str_list, DV.isi_str_tuple, DV.isi_str_seq, DV.isN_str, DV.isi_lst_int, DV.isi_lst_bool, DV.isi_lst_str, DV.isi_lst_list, DV.isi_lst_tuple, DV.isi_lst_seq, DV.isN_lst, DV.isi_tup_int, DV.isi_tup_bool, DV.isi_tup_str, DV.isi_tup_list, DV.isi_tup_tuple, DV.isi_tup_seq, DV.isN_tup, DV.s_eqN, DV.s_neN, DV.b_tt, DV.b_tf, DV.b_ft, DV.b_ff, DV.n_s_unp, DV.kUnp, DV.s_unpT, DV.s_maxL, DV.s_minL, DV.s_onMM, DV.s_inL, DV.s_inT, DV.s_onIn, DV.s_onNotIn, DV.s_LRg2, DV.D.ints_ints])
local macro_rules | `(tactic| walk_at "dh") => `(tactic| simp -implicitDefEqProofs only [
  DV.n_s_mkX, DV.kMk, DV.s_kMkO, DV.n_s_mkX0, DV.n_s_raise0, DV.n_s_setLenV, DV.s_onSLV, DV.n_s_fnMv, DV.s_kMv, DV.s_kMvN, DV.n_s_slS, DV.kSlS, DV.kSlS1, DV.kSlS2, DV.s_onSlS, DV.n_dictK, DV.n_s_storeK, DV.kStK, DV.s_onStK1, DV.kStK2, DV.kStK3, DV.s_onStK, DV.s_stSKo, DV.s_getKi, DV.s_getKs, DV.s_putKi, DV.s_putKs, DV.s_kMt1S, DV.n_s_istr, DV.kIStr, DV.s_onIStr, DV.n_s_trg2, DV.kTRg1, DV.kTRg2, DV.s_onTRg, DV.n_s_sl3T, DV.kSl3T, DV.kSl3T1, DV.kSl3T2, DV.kSl3T3, DV.s_onSl3T, DV.s_sl3TL, DV.s_sl3TT, DV.s_ins, DV.n_s_storeSl, DV.kStSl, DV.s_onStSl0, DV.kStSl1, DV.kStSl2, DV.kStSl3, DV.s_onStSl, DV.s_onStSl2, DV.n_s_pick3, DV.s_kPick3, DV.n_dictT, DV.n_oneT, DV.n_s_storeT, DV.kStT, DV.s_onStT1, DV.kStT2, DV.kStT3, DV.s_onStT, DV.s_stSTo, DV.n_s_getT2, DV.s_kT1, DV.s_oT1, DV.s_kT2, DV.s_kT3, DV.s_gT3, DV.n_s_appT, DV.kAppT, DV.s_onApp, DV.s_endE, DV.s_endX, DV.s_outE, DV.kRaise, DV.n_s_raise, DV.s_kRz, DV.n_s_try, DV.s_kTryV, DV.s_kTryX, DV.s_kTryE, DV.s_putL, DV.s_putN, DV.n_s_isX, DV.kIsX, DV.s_kIsO, DV.s_kIsB, DV.n_s_xf, DV.kXf, DV.s_kXfO, DV.s_kXfB, DV.isN_exn, DV.notN_exn, DV.n_s_orL, DV.s_kOrL, DV.s_kOrO0, DV.s_kOrO1, DV.n_s_ifT, DV.kIfT, DV.n_s_dictP, DV.s_kDP, DV.s_kDO, DV.s_onDP, DV.n_s_get2, DV.s_kG1, DV.s_onG1, DV.s_kG2, DV.s_onG2, DV.s_kG3, DV.lk0, DV.lk1, DV.lk2, DV.lk3, DV.lk4, DV.lk5, DV.lk6, DV.lk7, DV.n_s_ikeys, DV.kKy, DV.s_onKy, DV.n_s_dc, DV.kDC, DV.kDcE, DV.n_s_lrg3, DV.kLRg33, DV.kLRg32, DV.kLRg31, DV.s_on3, DV.s_lrg3o, DV.n_s_setLen, DV.kSL, DV.lenK_ints, DV.s_isBl, DV.s_eqS, DV.s_neS, DV.n_s_mt, DV.kMt, DV.s_kMt1L, DV.kMt2, DV.n_s_fzR, DV.s_kFzv, DV.s_kFzt, DV.s_kFzi, DV.s_kFzs, DV.s_kFzS1, DV.s_kFzS2, DV.n_s_kb, DV.n_s_ka, DV.s_wdn, DV.s_wdc, DV.s_wdb, DV.s_wdr, DV.n_s_dfz, DV.s_fzn, DV.s_fzG1, DV.s_fzG2, DV.s_fzG3, DV.wl_nil, DV.wl_cons, DV.n_s_ien, DV.s_kien, DV.s_kient, DV.s_onEnL, DV.s_onEnT, DV.s_kiens, DV.s_kiens1, DV.s_kiens2, DV.n_s_fnK, DV.kFnK, DV.prm_nil, DV.prm_cons, List.map_cons, List.map_nil, DV.S0.s_vr4, DV.S0.s_vr5, DV.n_s_frame, DV.s_exn, DV.s_exr, DV.n_s_asgN, DV.kAsgN, DV.s_onNst, DV.s_nst0, DV.s_nstv, DV.s_nstl, DV.n_s_asgN1, DV.s_onNst1, DV.n_s_wreck, DV.s_wrS, DV.s_en1, DV.s_en2, DV.s_en3, DV.s_en4, DV.s_en5, DV.s_en6, DV.s_ex1, DV.s_ex2, DV.s_ex3, DV.s_ex4, DV.s_ex5, DV.s_re1, DV.s_re2, DV.s_re3, DV.s_re4, DV.s_re5, DV.s_re6, DV.s_tg0, DV.s_tgk, List.all_cons, List.all_nil, Nat.reduceLT, DV.n_s_op, DV.n_s_test, DV.n_s_notT, DV.n_s_andT, DV.n_s_orT, DV.n_s_andV, DV.n_s_orV, DV.n_s_notV, DV.n_s_if, DV.n_s_onC, DV.n_s_chLeLt, DV.n_s_chLeLe, DV.n_s_chLtLe, DV.n_s_un, DV.n_s_ACons, DV.n_s_FCons, DV.n_s_AFCons, DV.n_s_lst, DV.n_s_tup, DV.n_s_call, DV.n_s_seq, DV.n_s_drop, DV.n_s_ret, DV.n_s_ifS, DV.n_s_asg, DV.n_s_augS, DV.n_s_tupAsg, DV.n_s_for, DV.n_whL_succ, DV.n_s_iseq, DV.n_s_irg, DV.n_s_izip, DV.n_s_lc, DV.n_lcL_cons, DV.n_s_fn, DV.n_s_mut, DV.n_s_store, DV.n_s_oSome, DV.n_s_sl, DV.n_s_sl3, DV.n_s_lrg1, DV.n_s_lrg2, DV.S0.loop_nx, DV.S0.loop_ct, DV.S0.loop_brk, DV.S0.loop_ret, DV.S0.loop_exc, DV.S0.loop_stuck, DV.S0.s_onG, DV.S0.s_onG0, DV.S0.s_onB, DV.S0.s_onI, DV.S0.s_onN, DV.S0.s_pkv, DV.S0.s_pkt, DV.S0.s_pks, DV.S0.s_pkS1, DV.S0.s_pkS2, DV.S0.s_pkS3, DV.S0.s_var, DV.S0.s_vr1, DV.S0.s_vr2, DV.S0.s_vr3, DV.S0.s_C, DV.S0.s_on, DV.S0.s_onV, DV.S0.s_onU, DV.S0.s_neg, DV.S0.s_II, DV.S0.s_IC, DV.S0.s_addI, DV.S0.s_addL, DV.S0.s_addT, DV.S0.s_addS, DV.S0.s_mulI, DV.S0.s_mulL, DV.S0.s_ixL, DV.S0.s_ixT, DV.S0.s_ixC, DV.S0.s_ANil, DV.S0.s_FNil, DV.S0.s_onF, DV.S0.s_fzv, DV.S0.s_fzt, DV.S0.s_fzs, DV.S0.s_fzS1, DV.S0.s_fzS2, DV.S0.s_peeks0, DV.S0.s_cons2, DV.S0.s_peeks, DV.S0.s_onLs, DV.S0.s_onL, DV.S0.s_lenL, DV.S0.s_lenT, DV.S0.s_lenC, DV.S0.s_listL, DV.S0.s_listT, DV.S0.s_tupleL, DV.S0.s_tupleT, DV.S0.s_intI, DV.S0.s_intB, DV.S0.s_abs, DV.S0.s_max2, DV.S0.s_min2, DV.S0.s_all, DV.S0.s_any, DV.S0.s_sum, DV.S0.s_asgv, DV.S0.s_asgt, DV.S0.s_asgs, DV.S0.s_asgS1, DV.S0.s_asgS2, DV.S0.s_asgS3, DV.S0.s_aug, DV.S0.s_onT, DV.S0.s_fzS0, DV.S0.s_fzSv, DV.S0.s_fzSt, DV.S0.s_fzSs, DV.S0.s_fzSk, DV.S0.s_many0, DV.S0.s_manyv, DV.S0.s_manyt, DV.S0.forL_nil, DV.S0.s_tg1, DV.S0.s_tgm, DV.S0.s_vals0, DV.S0.s_vals, DV.S0.s_itL, DV.S0.s_itT, DV.S0.s_rs1, DV.S0.s_rs2, DV.S0.s_onZL, DV.S0.s_onZT, DV.S0.lcL_nil, DV.S0.s_yes, DV.S0.s_onA, DV.S0.s_arg0, DV.S0.s_argV, DV.S0.s_argv, DV.S0.s_argB, DV.S0.s_argb, DV.S0.s_argi, DV.S0.s_setIo0, DV.S0.s_out0, DV.S0.s_out1, DV.S0.s_out1o, DV.S0.s_muO, DV.S0.s_onMut, DV.S0.s_onRc, DV.S0.s_rc, DV.S0.s_rcL, DV.S0.s_app, DV.S0.s_ext, DV.S0.s_popO, DV.S0.s_popAt, DV.S0.s_onFf, DV.S0.s_onSt, DV.S0.s_stO, DV.S0.s_gSt, DV.S0.s_stSo, DV.S0.s_stSi, DV.S0.s_onMuo, DV.S0.s_onMui, DV.S0.s_argIo, DV.S0.s_argIi, DV.S0.s_oNone, DV.S0.s_slL, DV.S0.s_slT, DV.S0.s_sl3L, DV.S0.s_run, DV.S0.s_endN, DV.S0.s_endR, DV.S0.s_endRp, DV.S0.s_endO, DV.S0.s_noExc, DV.S0.s_noX, DV.S0.s_resv, DV.S0.s_rest, DV.S0.s_ress, DV.S0.s_resS1, DV.S0.s_resS2, DV.S0.s_outs0, DV.S0.s_outC, DV.S0.s_outs, DV.S0.s_outAt, DV.S0.s_outS, DV.S0.s_ioIx0, DV.S0.s_ioIxv, DV.S0.s_ioIxb, DV.S0.s_ioIxi, DV.S0.s_init0, DV.S0.s_initv, DV.S0.s_initb, DV.S0.s_initi, DV.S0.s_wipe0, DV.S0.s_wipe, DV.S0.s_ap0, DV.S0.s_apv, DV.S0.s_api, DV.S0.s_apbv, DV.S0.s_apbt, DV.S0.s_apbs, DV.kOp2, DV.kOp, DV.kTest, DV.kNotT, DV.kAndT, DV.kOrT, DV.kBl, DV.kAndV, DV.kOrV, DV.kNotV, DV.kIf, DV.kCh2, DV.kCh, DV.kUn, DV.kAC2, DV.kAC, DV.kFC3, DV.kFC2, DV.kFC, DV.kAFC3, DV.kAFC2, DV.kAFC, DV.kLst, DV.kTup, DV.kCall, DV.kDrop, DV.kRet, DV.kIfS, DV.kAsg, DV.kAug, DV.kT, DV.kFor, DV.kWh, DV.kISeq, DV.kIRg, DV.kLC2, DV.kLC, DV.kL3, DV.kL2, DV.kL1, DV.kFn, DV.kMut3, DV.kMut2, DV.kMut, DV.kSt4, DV.kSt3, DV.kSt2, DV.kSt, DV.kOS, DV.kSl2, DV.kSl1, DV.kSl, DV.kSl33, DV.kSl32, DV.kSl31, DV.kSl3, DV.kLRg1, DV.kLRg22, DV.kLRg2, DV.kC2, DV.kC,
  DV.Rs.bind_ok, DV.Rs.bind_stuck, DV.Rs.bind_exc, DV.Rs.fl_ok, DV.Rs.fl_stuck, DV.Rs.fl_exc, DV.Rs.wp_ok, DV.Fl.seq_nx, DV.Fl.seq_ret, DV.Fl.seq_brk, DV.Fl.seq_ct, DV.Fl.seq_stuck, DV.Fl.seq_exc,
  List.getElem?_cons_zero, List.getElem?_cons_succ, List.getElem?_nil, List.set_cons_zero, List.set_cons_succ, List.set_nil, List.cons_append, List.nil_append, List.append_nil, List.replicate, List.length_cons, List.length_nil, Nat.reduceAdd, Nat.reduceSub, Nat.zero_add, List.contains_nil, List.contains_cons, DV.startL,
  Bool.and_true, Bool.true_and, Bool.and_false, Bool.false_and, Bool.or_true, Bool.true_or, Bool.or_false, Bool.false_or, Bool.not_true, Bool.not_false, if_true, if_false, reduceIte, reduceCtorEq, decide_true, decide_false, decide_eq_true_eq, Option.map_some, Option.map_none, Option.some_or, Option.none_or, Option.bind_some, Option.bind_none, Bool.false_eq_true, Nat.reduceLeDiff, Nat.reduceEqDiff, beq_iff_eq, Nat.reduceBEq, ne_eq, not_true_eq_false, not_false_eq_true, Option.some.injEq, Bool.not_eq_true', decide_eq_false_iff_not, Bool.not_not, L2.ixN, DV.atI_0, DV.atI_1, DV.atI_2, DV.atI_3, DV.atI_4, DV.atI_5, DV.atI_6, DV.atI_7, DV.atI_8, DV.atI_9, DV.atI_10, DV.atI_11, DV.atI_12, DV.atI_13, DV.atI_14, DV.atI_15, DV.atI_m1, DV.s_eqI, DV.s_neI, DV.s_eqB, DV.s_neB, Int.reduceLE, Int.reduceLT, Int.reduceNeg, Int.reduceToNat, Int.reduceAdd, Int.reduceMul, Int.reduceSub, Int.le_refl, Int.cast_ofNat_Int, Int.toNat_zero, Int.toNat_one, Int.reducePow, true_and, and_true, DV.isi_non_int, DV.isi_non_bool, DV.isi_non_str, DV.isi_non_list, DV.isi_non_tuple, DV.isi_non_seq, DV.isN_non, DV.isi_bl_int, DV.isi_bl_bool, DV.isi_bl_str, DV.isi_bl_list, DV.isi_bl_tuple, DV.isi_bl_seq, DV.isN_bl, DV.isi_int_int, DV.isi_int_bool, DV.isi_int_str, DV.isi_int_list, DV.isi_int_tuple, DV.isi_int_seq, DV.isN_int, DV.isi_str_int, DV.isi_str_bool, DV.isi_str_str, DV.isi_str_list, DV.isi_str_tuple, DV.isi_str_seq, DV.isN_str, DV.isi_lst_int, DV.isi_lst_bool, DV.isi_lst_str, DV.isi_lst_list, DV.isi_lst_tuple, DV.isi_lst_seq, DV.isN_lst, DV.isi_tup_int, DV.isi_tup_bool, DV.isi_tup_str, DV.isi_tup_list, DV.isi_tup_tuple, DV.isi_tup_seq, DV.isN_tup, DV.s_eqN, DV.s_neN, DV.b_tt, DV.b_tf, DV.b_ft, DV.b_ff, DV.n_s_unp, DV.kUnp, DV.s_unpT, DV.s_maxL, DV.s_minL, DV.s_onMM, DV.s_inL, DV.s_inT, DV.s_onIn, DV.s_onNotIn, DV.s_LRg2, DV.D.ints_ints, *])
section
set_option Elab.async false
set_option linter.all false
set_option maxRecDepth 100000
set_option maxHeartbeats 4000000
namespace PI
open PySem PySem.Spec PyProof.Rows L2 DV PySem.W
/-! ### the source of draws -/
def Box (n : Int) (b : D) : Prop := ∃ x y c : Int, b = .lst [.int x, .int y, .int c] ∧ 0 ≤ x ∧ 0 ≤ y ∧ y < 2147483549 ∧ 0 ≤ c ∧ c ≤ n
theorem Box.mono {n m : Int} {b : D} (h : Box n b) (k : n ≤ m) : Box m b := by
  obtain ⟨x, y, c, rfl, h1, h2, h3, h4, h5⟩ := h
  exact ⟨x, y, c, rfl, h1, h2, h3, h4, by omega⟩
theorem take_pos {k : Nat} {x y c span : Int} (h : 0 < x) (hs : 0 < span) (hs2 : span ≤ 10000000000) : R_Ltake (k + 1) [.lst [.int x, .int y, .int c], .int span] = .ok false (.int (x % span)) [.lst [.int (x / span), .int y, .int c]] := by
  have h1 : posOk x span = true := posOk_of hs
  have h2 : divOk x span = true := divOk_of hs (by omega)
  show noExc (runF [.io, .val] 4 (g_Ltake (R_Ltake k))) _ = _
  unfold g_Ltake
  walk_at "dh"
theorem take_mix {k : Nat} {y c span : Int} {n : Int} (h0 : 0 ≤ y) (hy : y < 2147483549) (hc : 0 ≤ c) (hn : c ≤ n) (hn2 : n ≤ 100000000) (hs : 0 < span) (hs2 : span ≤ 10000000) :
    ∃ r, R_Ltake (k + 1) [.lst [.int 0, .int y, .int c], .int span] = .ok false (.int (r % span)) [.lst [.int 0, .int y, .int (c + 1)]] := by
  have e1 : mulOk 52183 (c + 1) = true := mulOk_l (by decide)
  have e2 : powOk (y + 52183 * (c + 1)) 3 = true := powOk_of (by decide) (by decide) (by omega)
  have e3 : ∀ i, posOk i 2147483587 = true := fun _ => posOk_of (by decide)
  have e4 : ∀ i, posOk i 30011 = true := fun _ => posOk_of (by decide)
  have e5 : ∀ i, posOk i 2147483647 = true := fun _ => posOk_of (by decide)
  have e6 : ∀ i, posOk i span = true := fun _ => posOk_of hs
  have e7 : ∀ i, divOk i 32 = true := fun _ => divOk_of (by decide) (by decide)
  have e8 : mulOk (c + 1) 6389 = true := mulOk_r (by decide)
  have e9 : ∀ i j, mulOk (i % 2147483587) j = true := fun i j => mulOk_l (by have := Int.emod_nonneg i (show (2147483587 : Int) ≠ 0 by decide); have := Int.emod_lt_of_pos i (show (0 : Int) < 2147483587 by decide); omega)
  have e10 : powOk 10 7 = true := by decide
  have h1 : ¬ 10000000 < span := by omega
  have h2 : ¬ (0 : Int) < 0 := by omega
  refine ⟨((y + 52183 * (c + 1)) ^ 3 % 2147483587 * ((y + 52183 * (c + 1)) ^ 3 % 2147483587 % 30011 + 13) + (c + 1) * 6389) % 2147483647 / 32, ?_⟩
  show noExc (runF [.io, .val] 4 (g_Ltake (R_Ltake k))) _ = _
  unfold g_Ltake
  walk_at "dh"
theorem take_small {k : Nat} {b : D} {span : Int} {n : Int} (hb : Box n b) (hn2 : n ≤ 100000000) (hs : 0 < span) (hs2 : span ≤ 10000000) :
    ∃ r b', R_Ltake (k + 1) [b, .int span] = .ok false (.int r) [b'] ∧ 0 ≤ r ∧ r < span ∧ Box (n + 1) b' := by
  obtain ⟨x, y, c, rfl, h1, h2, h3, h4, h5⟩ := hb
  by_cases hx : 0 < x
  · refine ⟨_, _, take_pos hx hs (by omega), Int.emod_nonneg _ (by omega), Int.emod_lt_of_pos _ hs, _, _, _, rfl, Int.ediv_nonneg h1 (by omega), h2, h3, h4, by omega⟩
  · have : x = 0 := by omega
    subst this
    obtain ⟨r, hr⟩ := take_mix (k := k) h2 h3 h4 h5 hn2 hs hs2
    exact ⟨_, _, hr, Int.emod_nonneg _ (by omega), Int.emod_lt_of_pos _ hs, _, _, _, rfl, by omega, h2, h3, by omega, by omega⟩
theorem mtake {b : D} {span : Int} {n : Int} (hb : Box n b) (hn2 : n ≤ 100000000) (hs : 0 < span) (hs2 : span ≤ 10000000) :
    ∃ r b', M_Ltake [b, .int span] = .ok false (.int r) [b'] ∧ 0 ≤ r ∧ r < span ∧ Box (n + 1) b' := take_small (k := 3) hb hn2 hs hs2
theorem mtake_big {b : D} {span : Int} {n : Int} (hb : Box n b) (hn2 : n ≤ 10000000) (hs : 0 < span) (hs2 : span ≤ 1000000000) :
    ∃ r b', M_Ltake [b, .int span] = .ok false (.int r) [b'] ∧ 0 ≤ r ∧ r < span ∧ Box (n + 2) b' := by
  by_cases hsm : span ≤ 10000000
  · obtain ⟨r, b', h1, h2, h3, h4⟩ := mtake hb (by omega) hs hsm
    exact ⟨r, b', h1, h2, h3, h4.mono (by omega)⟩
  · have hb0 := hb
    obtain ⟨x, y, c, rfl, h1, h2, h3, h4, h5⟩ := hb
    by_cases hx : 0 < x
    · exact ⟨_, _, take_pos (k := 3) hx hs (by omega), Int.emod_nonneg _ (by omega), Int.emod_lt_of_pos _ hs, _, _, _, rfl, Int.ediv_nonneg h1 (by omega), h2, h3, h4, by omega⟩
    · have : x = 0 := by omega
      subst this
      obtain ⟨r1, b1, k1, k2, k3, k4⟩ := take_small (k := 2) (span := 10000000) hb0 (by omega) (by omega) (by omega)
      obtain ⟨r2, b2, j1, j2, j3, j4⟩ := take_small (k := 2) (span := span / 10000000 + 1) k4 (by omega) (by omega) (by omega)
      refine ⟨(r1 + 10000000 * r2) % span, b2, ?_, Int.emod_nonneg _ (by omega), Int.emod_lt_of_pos _ hs, by rw [show n + 2 = n + 1 + 1 by omega]; exact j4⟩
      have e1 : mulOk 10000000 r2 = true := mulOk_l (by decide)
      have e6 : ∀ i, posOk i span = true := fun _ => posOk_of hs
      have e7 : divOk span 10000000 = true := divOk_of (by decide) (by decide)
      have e10 : powOk 10 7 = true := by decide
      have h1 : 10000000 < span := by omega
      have h2 : ¬ (0 : Int) < 0 := by omega
      generalize hm : R_Ltake (2 + 1) = m at k1 j1
      have em : R_Ltake 3 = m := hm
      show noExc (runF [.io, .val] 4 (g_Ltake (R_Ltake 3))) _ = _
      clear hm
      unfold g_Ltake
      walk_at "dh"
theorem at_ex {α : Type} {xs : List α} {r : Int} (h0 : 0 ≤ r) (h : r < xs.length) : ∃ d, L2.atI xs r = some d ∧ d ∈ xs := by
  rw [atI_at h0 h]
  have hn : r.toNat < xs.length := by omega
  exact ⟨xs[r.toNat], by rw [List.getElem?_eq_getElem hn], List.getElem_mem hn⟩
theorem mbox {ns : List Int} {k : Int} (hk : 0 ≤ k) (hk2 : k ≤ 100) : ∃ b, M_Lbox [.scr ns, .int k] = .ok true b [] ∧ Box 0 b := by
  have main : ∀ cell : Int, Box 0 (.lst [.int ((if cell < 0 then -cell else cell) * (if 1000000000000000000 ≤ (if cell < 0 then -cell else cell) then 1 else 0)), .int ((cell % 2147483629 + 17417 * k + 37) * 40277 % 2147483549), .int 0]) := by
    intro cell
    refine ⟨_, _, _, rfl, ?_, Int.emod_nonneg _ (by omega), Int.emod_lt_of_pos _ (by omega), by omega, by omega⟩
    refine Int.mul_nonneg ?_ ?_ <;> split <;> omega
  have e1 : powOk 10 18 = true := by decide
  have e2 : ∀ (i : Int) (p : Prop) [Decidable p], mulOk i (if p then 1 else 0) = true := fun i p _ => mulOk_r (by split <;> decide)
  have e20 : mulOk 0 0 = true := by decide
  have e3 : ∀ i, posOk i 2147483629 = true := fun _ => posOk_of (by decide)
  have e4 : ∀ i, posOk i 2147483549 = true := fun _ => posOk_of (by decide)
  have e5 : ∀ i, mulOk 17417 i = true := fun i => mulOk_l (by decide)
  have e6 : ∀ i, mulOk i 40277 = true := fun i => mulOk_r (by decide)
  have e7 : lenOk 3 = true := rfl
  by_cases h : k < (ns.length : Int)
  · obtain ⟨cell, h1, _⟩ := at_ex hk h
    refine ⟨_, ?_, main cell⟩
    show noExc (runF [.val, .val] 3 g_Lbox) _ = _
    unfold g_Lbox
    clear main
    walk_at "dh"
  · refine ⟨.lst [.int 0, .int ((0 % 2147483629 + 17417 * k + 37) * 40277 % 2147483549), .int 0], ?_, _, _, _, rfl, by omega, Int.emod_nonneg _ (by omega), Int.emod_lt_of_pos _ (by omega), by omega, by omega⟩
    show noExc (runF [.val, .val] 3 g_Lbox) _ = _
    unfold g_Lbox
    clear main
    walk_at "dh"
end PI
end
section
set_option Elab.async false
set_option linter.all false
set_option maxRecDepth 100000
set_option maxHeartbeats 4000000
namespace PI
open PySem PySem.Spec PyProof.Rows L2 DV PySem.W
/-! ### data of numbers -/
/-! ### the biggest of a run -/
/-! ### the runs -/
/-! ### the move of a gap, the nesting, by the law -/
end PI
end
section
set_option Elab.async false
set_option linter.all false
set_option maxRecDepth 100000
set_option maxHeartbeats 4000000
namespace PI
open PySem PySem.Spec PyProof.Rows L2 DV PySem.W
/-! ### slices, stores -/
/-! ### nestings as data -/
def oD : Option Nat → D
  | none => .non
  | some q => .int (q : Int)
/-! ### climbing, by the law -/
end PI
end
section
set_option Elab.async false
set_option linter.all false
namespace PI
/-! ### the top of the stretch of a place -/
def rt (ns : List Int) (cs : List Nat) (p : Nat) : Nat := top ns (lo cs p) (hi cs ns.length p)
/-- two places in one stretch -/
def Sm (cs : List Nat) (p q : Nat) : Prop := ∀ k, (p ≤ k ∧ k < q) ∨ (q ≤ k ∧ k < p) → k ∈ cs
theorem Sm.symm {cs : List Nat} {p q : Nat} (h : Sm cs p q) : Sm cs q p := fun k hk => h k hk.symm
theorem Sm.trans {cs : List Nat} {p q r : Nat} (h : Sm cs p q) (h2 : Sm cs q r) : Sm cs p r := fun k hk => by
  by_cases c : (p ≤ k ∧ k < q) ∨ (q ≤ k ∧ k < p)
  · exact h k c
  · exact h2 k (by omega)
theorem Sm.mono {cs ds : List Nat} {p q : Nat} (h : Sm cs p q) (hs : ∀ k ∈ cs, k ∈ ds) : Sm ds p q := fun k hk => hs k (h k hk)
end PI
end
section
set_option Elab.async false
set_option linter.all false
namespace PI
/-! ### all orders of some gaps, counted -/
def pm : Nat → List Nat → List (List Nat)
  | 0, _ => [[]]
  | k + 1, G => G.flatMap fun g => (pm k (G.erase g)).map (g :: ·)
/-! sums -/
/-- the last gap of a lot closes while both other lots are still open -/
def ev (M A L R : Nat → Bool) : Bool → Bool → List Nat → Bool
  | _, _, [] => false
  | fl, fr, x :: s => if M x then fl && fr && A x else ev M A L R (fl || L x) (fr || R x) s
structure Lots (M A L R : Nat → Bool) : Prop where
  am : ∀ x, A x = true → M x = true
  lm : ∀ x, L x = true → M x = false
  rm : ∀ x, R x = true → M x = false
  lr : ∀ x, L x = true → R x = false
def Lots.swap {M A L R : Nat → Bool} (h : Lots M A L R) : Lots M A R L := ⟨h.am, h.rm, h.lm, fun x hx => by
  cases c : L x with
  | false => rfl
  | true => rw [h.lr x c] at hx; cases hx⟩
end PI
end
section
set_option Elab.async false
set_option linter.all false
namespace PI
/-! ### who is where at last, by what closes last -/
end PI
end
section
set_option Elab.async false
set_option linter.all false
namespace PI
/-! ### fractions in lowest terms -/
/-! ### the chances -/
/-! ### together -/
end PI
end
section
set_option Elab.async false
set_option linter.all false
set_option maxRecDepth 100000
set_option maxHeartbeats 4000000
namespace PI
open PySem PySem.Spec PyProof.Rows L2 DV PySem.W
/-! ### fractions: what the mirrors of chances return -/
/-! ### distances to bigger boxes -/
end PI
end
section
set_option Elab.async false
set_option linter.all false
set_option maxRecDepth 100000
set_option maxHeartbeats 4000000
namespace PI
open PySem PySem.Spec PyProof.Rows L2 DV PySem.W
/-! ### far places by distances -/
/-! ### is_above -/
theorem bls_map {α : Type} (f : α → Bool) (xs : List α) : D.bls (xs.map fun x => D.bl (f x)) = some (xs.map f) := by
  have := D.bls_map (xs.map f)
  rw [List.map_map] at this
  exact this
end PI
end
section
set_option Elab.async false
set_option linter.all false
set_option maxRecDepth 100000
set_option maxHeartbeats 4000000
namespace PI
open PySem PySem.Spec PyProof.Rows L2 DV PySem.W
/-! ### the chances -/
/-! ### averages -/
end PI
end
section
set_option Elab.async false
set_option linter.all false
set_option maxRecDepth 100000
set_option maxHeartbeats 4000000
namespace PI
open PySem PySem.Spec PyProof.Rows L2 DV PySem.W
/-! ### equal with kinds -/
inductive Pl : Nat → D → Prop
  | int {n} (i : Int) : Pl n (.int i)
  | bl {n} (i : Bool) : Pl n (.bl i)
  | non {n} : Pl n .non
  | str {n} (x : Str) (h : gEq (.str x) (.str x) = some (.v (.bl true))) : Pl n (.str x)
  | lst {n ds} : ds.length ≤ 1000000 → (∀ d ∈ ds, Pl n d) → Pl (n + 1) (.lst ds)
  | tup {n ds} : ds.length ≤ 1000000 → (∀ d ∈ ds, Pl n d) → Pl (n + 1) (.tup ds)
theorem same_lc {m : Mir} {d : D} {ds : List D} (hl : ds.length ≤ 1000000) (h : ∀ x ∈ ds, m [x, x] = .ok false (.bl true) []) :
    ∃ ys, lcL [2, 3] (.many [2, 3]) dYes (E_Lsame_1 m) (zipD ds ds) [] [.val d, .val d, .un, .un] = .ok ys [.val d, .val d, .un, .un] ∧ gAll [.lst ys] = some (.v (.bl true)) := by
  have hl := lc_inv (vs := [2, 3]) (t := .many [2, 3]) (c := dYes) (e := E_Lsame_1 m) (I := fun _ L => L = [.val d, .val d, .un, .un]) (F := fun _ y => y = .bl true)
    (zipD ds ds) 0 [] [.val d, .val d, .un, .un] rfl (by simp [zipD]; omega) ?_
  · obtain ⟨ys, L', h1, h2, h3, h4⟩ := hl
    subst h4
    exact ⟨ys, by simpa using h1, all_true (fun j y hy => h3 j y hy)⟩
  · intro j x L hx hL
    subst hL
    obtain ⟨a, b, ha, hb, rfl⟩ := zipD_get hx
    rw [ha] at hb
    cases hb
    have hm := h a (List.mem_of_getElem? ha)
    refine ⟨[.val d, .val d, .val a, .val a], _, .v (.bl true), [.val d, .val d, .val a, .val a], .bl true, [.val d, .val d, .val a, .val a], rfl, rfl, ?_, rfl, rfl, rfl⟩
    unfold E_Lsame_1
    walk_at "dh"
theorem same_self : ∀ (n : Nat) (d : D), Pl n d → ∀ k, R_Lsame (k + n + 1) [d, d] = .ok false (.bl true) []
  | n, _, .int i, k => by
    show noExc (runF [.val, .val] 4 (g_Lsame (R_Lsame (k + n)))) _ = _
    generalize R_Lsame (k + n) = m
    unfold g_Lsame
    have e : lenOk 2 = true := rfl
    walk_at "dh"
  | n, _, .bl i, k => by
    show noExc (runF [.val, .val] 4 (g_Lsame (R_Lsame (k + n)))) _ = _
    generalize R_Lsame (k + n) = m
    unfold g_Lsame
    have e : lenOk 2 = true := rfl
    have e2 : (i == i) = true := by simp
    walk_at "dh"
  | n, _, .non, k => by
    show noExc (runF [.val, .val] 4 (g_Lsame (R_Lsame (k + n)))) _ = _
    generalize R_Lsame (k + n) = m
    unfold g_Lsame
    have e : lenOk 2 = true := rfl
    walk_at "dh"
  | n, _, .str x he, k => by
    show noExc (runF [.val, .val] 4 (g_Lsame (R_Lsame (k + n)))) _ = _
    generalize R_Lsame (k + n) = m
    unfold g_Lsame
    have e : lenOk 2 = true := rfl
    walk_at "dh"
  | n + 1, .lst ds, .lst hl h, k => by
    obtain ⟨ys, h1, h2⟩ := same_lc (m := R_Lsame (k + n + 1)) (d := .lst ds) hl fun x hx => same_self n x (h x hx) k
    show noExc (runF [.val, .val] 4 (g_Lsame (R_Lsame (k + n + 1)))) _ = _
    generalize R_Lsame (k + n + 1) = m at *
    unfold g_Lsame
    have e : lenOk 2 = true := rfl
    generalize E_Lsame_1 m = e1 at *
    walk_at "dh"
  | n + 1, .tup ds, .tup hl h, k => by
    obtain ⟨ys, h1, h2⟩ := same_lc (m := R_Lsame (k + n + 1)) (d := .tup ds) hl fun x hx => same_self n x (h x hx) k
    show noExc (runF [.val, .val] 4 (g_Lsame (R_Lsame (k + n + 1)))) _ = _
    generalize R_Lsame (k + n + 1) = m at *
    unfold g_Lsame
    have e : lenOk 2 = true := rfl
    generalize E_Lsame_1 m = e1 at *
    walk_at "dh"
theorem msame {n : Nat} {d : D} (h : Pl n d) (hn : n ≤ 7) : M_Lsame [d, d] = .ok false (.bl true) [] := by
  have := same_self n d h (7 - n)
  rw [show 7 - n + n + 1 = 8 by omega] at this
  exact this
/-! ### choosing -/
/-! ### all orders -/
end PI
end
section
set_option Elab.async false
set_option linter.all false
set_option maxRecDepth 100000
set_option maxHeartbeats 4000000
namespace PI
open PySem PySem.Spec PyProof.Rows L2 DV PySem.W
/-! ### the classes (k25) -/
theorem forL_same {t : Tg} {g : DS} {L : LS} : ∀ ds : List D, (∀ d ∈ ds, ∃ L1, tgSet t d L = some L1 ∧ g L1 = .nx L) → forL t g ds L = .nx L
  | [], _ => rfl
  | d :: ds, h => by
    obtain ⟨L1, h1, h2⟩ := h d (List.mem_cons_self ..)
    rw [S0.forL_cons h1, h2]
    exact forL_same ds fun x hx => h x (List.mem_cons_of_mem _ hx)
def flgD (n : Str) : List D := [.bl (anyC n ["Duplicate"]), .bl (anyC n ["NotFull"]), .bl (anyC n ["OtherNesting"]), .bl (anyC n ["BadText"]), .bl (anyC n ["BadLine"]), .bl (anyC n ["NoBox"]), .bl (anyC n ["NoGap"]), .bl (anyC n ["NoIndex"]), .bl (anyC n ["NoNumber"]), .bl (anyC n ["NoState"]), .bl (anyC n ["Closed"]), .bl (anyC n ["Outer"]), .bl (anyC n ["Stuck"]), .bl (anyC n ["Blocked"]), .bl (anyC n ["TooMany"]), .bl (anyC n ["Full"])]
theorem mflags {n : Str} {fs : List (Str × D)} (c0 : isIn n XAll = true) : M_Lflags [.exn n fs] = .ok true (.lst (flgD n)) [] := by
  have l1 : lenOk 1 = true := rfl
  have l2 : lenOk 2 = true := rfl
  have l3 : lenOk 3 = true := rfl
  have l4 : lenOk 4 = true := rfl
  have l5 : lenOk 5 = true := rfl
  have l6 : lenOk 6 = true := rfl
  have l7 : lenOk 7 = true := rfl
  have l10 : lenOk 10 = true := rfl
  have q3 : lenOk 3 = true := rfl
  have q6 : lenOk 6 = true := rfl
  have q9 : lenOk 9 = true := rfl
  have q12 : lenOk 12 = true := rfl
  have q15 : lenOk 15 = true := rfl
  have q16 : lenOk 16 = true := rfl
  show noExc (runF [.val] 2 g_Lflags) _ = _
  unfold g_Lflags flgD
  walk_at "dh"
theorem pys_bls : ∀ bs : List Bool, pys (bs.map D.bl) = some (bs.map PyData.bool)
  | [] => rfl
  | b :: bs => by simp only [List.map_cons, pys, pys_bls bs, D.py]; rfl
theorem can_bls : ∀ bs : List Bool, PyData.canLayAll0 (bs.map PyData.bool) = true ∧ PyData.depthAll (bs.map PyData.bool) = 0 ∧ PyData.eqvAll (bs.map PyData.bool) (bs.map PyData.bool) = true
  | [] => ⟨rfl, rfl, rfl⟩
  | b :: bs => by
    obtain ⟨h1, h2, h3⟩ := can_bls bs
    refine ⟨by simp only [List.map_cons, PyData.canLayAll0, PyData.canLay0, h1]; rfl, by simp only [List.map_cons, PyData.depthAll, PyData.depth, h2]; rfl, ?_⟩
    simp only [List.map_cons, PyData.eqvAll, h3]
    cases b <;> rfl
theorem gEq_bls (bs : List Bool) : gEq (.lst (bs.map D.bl)) (.lst (bs.map D.bl)) = some (.v (.bl true)) := by
  obtain ⟨h1, h2, h3⟩ := can_bls bs
  have e : (D.lst (bs.map D.bl)).py = some (.list (bs.map PyData.bool)) := by simp only [D.py, pys_bls]; rfl
  have sh : SeqAt.shaped (.list (bs.map PyData.bool)) = true := by
    unfold SeqAt.shaped
    simp only [PyData.canLay0, PyData.depth, h1, h2]
    rfl
  have eq : PyData.eqv (.list (bs.map PyData.bool)) (.list (bs.map PyData.bool)) = true := by simp only [PyData.eqv, h3]
  show gEqB false _ _ = _
  unfold gEqB
  simp only [e, sh, eq, Bool.and_self, if_true]
  rfl
def onD (n : Nat) (i : Int) : List D := (List.range n).map fun (k : Nat) => D.bl (decide ((k : Int) = i))
theorem lc_on1 {n : Nat} (hn : n ≤ 1000) (i : Int) (e : D) (s4 s5 s6 : Sl) : lcL [3] (.one 3) dYes E_Lone_right_1 (rgD 0 1 n) [] [.val (.int i), .val e, .un, .un, s4, s5, s6] = .ok (onD n i) [.val (.int i), .val e, .un, .un, s4, s5, s6] := by
  have hr : rgD 0 1 n = (List.range n).map fun (k : Nat) => D.int (k : Int) := by
    unfold rgD; exact List.map_congr_left fun k _ => by rw [Int.zero_add, Int.mul_one]
  rw [hr]
  refine lc_mapA (fun (k : Nat) => D.int (k : Int)) (fun (k : Nat) => D.bl (decide ((k : Int) = i))) _ (by simp; omega) fun x hx => ⟨_, S0.s_tg1 .., .v (.bl (decide ((x : Int) = i))), [.val (.int i), .val e, .un, .val (.int x), s4, s5, s6], [.val (.int i), .val e, .un, .val (.int x), s4, s5, s6], ?_, rfl, rfl⟩
  have q := DV.s_eqI (x : Int) i
  unfold E_Lone_right_1
  walk_at "dh"
theorem lc_on2 {n : Nat} (hn : n ≤ 1000) (i : Int) (s0 s1 s2 s5 s6 : Sl) : lcL [3] (.one 3) dYes E_Lone_right_2 (rgD 0 1 n) [] [s0, s1, s2, .un, .val (.int i), s5, s6] = .ok (onD n i) [s0, s1, s2, .un, .val (.int i), s5, s6] := by
  have hr : rgD 0 1 n = (List.range n).map fun (k : Nat) => D.int (k : Int) := by
    unfold rgD; exact List.map_congr_left fun k _ => by rw [Int.zero_add, Int.mul_one]
  rw [hr]
  refine lc_mapA (fun (k : Nat) => D.int (k : Int)) (fun (k : Nat) => D.bl (decide ((k : Int) = i))) _ (by simp; omega) fun x hx => ⟨_, S0.s_tg1 .., .v (.bl (decide ((x : Int) = i))), [s0, s1, s2, .val (.int x), .val (.int i), s5, s6], [s0, s1, s2, .val (.int x), .val (.int i), s5, s6], ?_, rfl, rfl⟩
  have q := DV.s_eqI (x : Int) i
  unfold E_Lone_right_2
  walk_at "dh"
theorem one_walk {i j : Int} {n : Str} {fs : List (Str × D)} {b1 b2 b3 b4 : Bool} {F O2 : List D} (c0 : isIn n XAll = true) (t1 : (if decide (i < 5) = true then (0 : Int) else if decide (i < 10) = true then 1 else if decide (i < 14) = true then 2 else 3) = j)
    (a1 : anyC n ["ValueError"] = b1) (a2 : anyC n ["LookupError"] = b2) (a3 : anyC n ["RuntimeError"] = b3) (a4 : anyC n ["OverflowError"] = b4) (a5 : anyC n ["IndexError", "KeyError", "NotImplementedError"] = false)
    (lc1 : lcL [3] (.one 3) dYes E_Lone_right_1 (rgD 0 1 16) [] [.val (.int i), .val (.exn n fs), .un, .un, .un, .un, .un] = .ok F [.val (.int i), .val (.exn n fs), .un, .un, .un, .un, .un])
    (lc2 : ∀ s2 s5 s6, lcL [3] (.one 3) dYes E_Lone_right_2 (rgD 0 1 4) [] [.val (.int i), .val (.exn n fs), s2, .un, .val (.int j), s5, s6] = .ok O2 [.val (.int i), .val (.exn n fs), s2, .un, .val (.int j), s5, s6])
    (mf : M_Lflags [.exn n fs] = .ok true (.lst F) []) (g1 : gEq (.lst F) (.lst F) = some (.v (.bl true))) (g2 : gEq (.lst O2) (.lst [.bl b1, .bl b2, .bl b3, .bl b4]) = some (.v (.bl true))) : M_Lone_right [.int i, .exn n fs] = .ok false (.bl true) [] := by
  have l1 : lenOk 1 = true := rfl
  have l2 : lenOk 2 = true := rfl
  have l3 : lenOk 3 = true := rfl
  have l4 : lenOk 4 = true := rfl
  have l5 : lenOk 5 = true := rfl
  have l6 : lenOk 6 = true := rfl
  have l7 : lenOk 7 = true := rfl
  have l10 : lenOk 10 = true := rfl
  have e1 : rgOk 16 = true := rfl
  have e2 : (16 : Int).toNat = 16 := rfl
  have e3 : rgOk 4 = true := rfl
  have e4 : (4 : Int).toNat = 4 := rfl
  show noExc (runF [.val, .val] 7 g_Lone_right) _ = _
  unfold g_Lone_right
  generalize M_Lflags = q at *
  generalize E_Lone_right_1 = e at *
  generalize E_Lone_right_2 = e' at *
  clear e1 e2 e3 e4
  have e1 : rgOk 16 = true := rfl
  have e2 : (16 : Int).toNat = 16 := rfl
  have e3 : rgOk 4 = true := rfl
  have e4 : (4 : Int).toNat = 4 := rfl
  by_cases c1 : i < 5
  · rw [decide_eq_true c1, if_pos rfl] at t1; subst t1; walk_at "dh"
  · rw [decide_eq_false c1, if_neg (by simp)] at t1
    by_cases c2 : i < 10
    · rw [decide_eq_true c2, if_pos rfl] at t1; subst t1; walk_at "dh"
    · rw [decide_eq_false c2, if_neg (by simp)] at t1
      by_cases c3 : i < 14
      · rw [decide_eq_true c3, if_pos rfl] at t1; subst t1; walk_at "dh"
      · rw [decide_eq_false c3, if_neg (by simp)] at t1; subst t1; walk_at "dh"
theorem one_Duplicate {fs : List (Str × D)} : M_Lone_right [.int 0, .exn "Duplicate" fs] = .ok false (.bl true) [] := by
  have c0 : isIn "Duplicate" XAll = true := by decide
  have e : flgD "Duplicate" = ([true, false, false, false, false, false, false, false, false, false, false, false, false, false, false, false] : List Bool).map D.bl := by unfold flgD; simp only [List.map_cons, List.map_nil, List.cons.injEq, D.bl.injEq, and_true]; decide
  have e2 : onD 16 0 = ([true, false, false, false, false, false, false, false, false, false, false, false, false, false, false, false] : List Bool).map D.bl := rfl
  have e3 : onD 4 0 = ([true, false, false, false] : List Bool).map D.bl := rfl
  have m := mflags (fs := fs) c0
  rw [e] at m
  have l1 := lc_on1 (n := 16) (by omega) 0 (.exn "Duplicate" fs) .un .un .un
  rw [e2] at l1
  exact one_walk (j := 0) c0 (by decide) (b1 := true) (b2 := false) (b3 := false) (b4 := false) (by decide) (by decide) (by decide) (by decide) (by decide) l1 (fun s2 s5 s6 => by rw [← e3]; exact lc_on2 (by omega) _ _ _ _ _ _) m (gEq_bls _) (gEq_bls [true, false, false, false])
theorem one_NotFull {fs : List (Str × D)} : M_Lone_right [.int 1, .exn "NotFull" fs] = .ok false (.bl true) [] := by
  have c0 : isIn "NotFull" XAll = true := by decide
  have e : flgD "NotFull" = ([false, true, false, false, false, false, false, false, false, false, false, false, false, false, false, false] : List Bool).map D.bl := by unfold flgD; simp only [List.map_cons, List.map_nil, List.cons.injEq, D.bl.injEq, and_true]; decide
  have e2 : onD 16 1 = ([false, true, false, false, false, false, false, false, false, false, false, false, false, false, false, false] : List Bool).map D.bl := rfl
  have e3 : onD 4 0 = ([true, false, false, false] : List Bool).map D.bl := rfl
  have m := mflags (fs := fs) c0
  rw [e] at m
  have l1 := lc_on1 (n := 16) (by omega) 1 (.exn "NotFull" fs) .un .un .un
  rw [e2] at l1
  exact one_walk (j := 0) c0 (by decide) (b1 := true) (b2 := false) (b3 := false) (b4 := false) (by decide) (by decide) (by decide) (by decide) (by decide) l1 (fun s2 s5 s6 => by rw [← e3]; exact lc_on2 (by omega) _ _ _ _ _ _) m (gEq_bls _) (gEq_bls [true, false, false, false])
theorem one_OtherNesting {fs : List (Str × D)} : M_Lone_right [.int 2, .exn "OtherNesting" fs] = .ok false (.bl true) [] := by
  have c0 : isIn "OtherNesting" XAll = true := by decide
  have e : flgD "OtherNesting" = ([false, false, true, false, false, false, false, false, false, false, false, false, false, false, false, false] : List Bool).map D.bl := by unfold flgD; simp only [List.map_cons, List.map_nil, List.cons.injEq, D.bl.injEq, and_true]; decide
  have e2 : onD 16 2 = ([false, false, true, false, false, false, false, false, false, false, false, false, false, false, false, false] : List Bool).map D.bl := rfl
  have e3 : onD 4 0 = ([true, false, false, false] : List Bool).map D.bl := rfl
  have m := mflags (fs := fs) c0
  rw [e] at m
  have l1 := lc_on1 (n := 16) (by omega) 2 (.exn "OtherNesting" fs) .un .un .un
  rw [e2] at l1
  exact one_walk (j := 0) c0 (by decide) (b1 := true) (b2 := false) (b3 := false) (b4 := false) (by decide) (by decide) (by decide) (by decide) (by decide) l1 (fun s2 s5 s6 => by rw [← e3]; exact lc_on2 (by omega) _ _ _ _ _ _) m (gEq_bls _) (gEq_bls [true, false, false, false])
theorem one_BadText {fs : List (Str × D)} : M_Lone_right [.int 3, .exn "BadText" fs] = .ok false (.bl true) [] := by
  have c0 : isIn "BadText" XAll = true := by decide
  have e : flgD "BadText" = ([false, false, false, true, false, false, false, false, false, false, false, false, false, false, false, false] : List Bool).map D.bl := by unfold flgD; simp only [List.map_cons, List.map_nil, List.cons.injEq, D.bl.injEq, and_true]; decide
  have e2 : onD 16 3 = ([false, false, false, true, false, false, false, false, false, false, false, false, false, false, false, false] : List Bool).map D.bl := rfl
  have e3 : onD 4 0 = ([true, false, false, false] : List Bool).map D.bl := rfl
  have m := mflags (fs := fs) c0
  rw [e] at m
  have l1 := lc_on1 (n := 16) (by omega) 3 (.exn "BadText" fs) .un .un .un
  rw [e2] at l1
  exact one_walk (j := 0) c0 (by decide) (b1 := true) (b2 := false) (b3 := false) (b4 := false) (by decide) (by decide) (by decide) (by decide) (by decide) l1 (fun s2 s5 s6 => by rw [← e3]; exact lc_on2 (by omega) _ _ _ _ _ _) m (gEq_bls _) (gEq_bls [true, false, false, false])
theorem one_BadLine {fs : List (Str × D)} : M_Lone_right [.int 4, .exn "BadLine" fs] = .ok false (.bl true) [] := by
  have c0 : isIn "BadLine" XAll = true := by decide
  have e : flgD "BadLine" = ([false, false, false, false, true, false, false, false, false, false, false, false, false, false, false, false] : List Bool).map D.bl := by unfold flgD; simp only [List.map_cons, List.map_nil, List.cons.injEq, D.bl.injEq, and_true]; decide
  have e2 : onD 16 4 = ([false, false, false, false, true, false, false, false, false, false, false, false, false, false, false, false] : List Bool).map D.bl := rfl
  have e3 : onD 4 0 = ([true, false, false, false] : List Bool).map D.bl := rfl
  have m := mflags (fs := fs) c0
  rw [e] at m
  have l1 := lc_on1 (n := 16) (by omega) 4 (.exn "BadLine" fs) .un .un .un
  rw [e2] at l1
  exact one_walk (j := 0) c0 (by decide) (b1 := true) (b2 := false) (b3 := false) (b4 := false) (by decide) (by decide) (by decide) (by decide) (by decide) l1 (fun s2 s5 s6 => by rw [← e3]; exact lc_on2 (by omega) _ _ _ _ _ _) m (gEq_bls _) (gEq_bls [true, false, false, false])
theorem one_NoBox {fs : List (Str × D)} : M_Lone_right [.int 5, .exn "NoBox" fs] = .ok false (.bl true) [] := by
  have c0 : isIn "NoBox" XAll = true := by decide
  have e : flgD "NoBox" = ([false, false, false, false, false, true, false, false, false, false, false, false, false, false, false, false] : List Bool).map D.bl := by unfold flgD; simp only [List.map_cons, List.map_nil, List.cons.injEq, D.bl.injEq, and_true]; decide
  have e2 : onD 16 5 = ([false, false, false, false, false, true, false, false, false, false, false, false, false, false, false, false] : List Bool).map D.bl := rfl
  have e3 : onD 4 1 = ([false, true, false, false] : List Bool).map D.bl := rfl
  have m := mflags (fs := fs) c0
  rw [e] at m
  have l1 := lc_on1 (n := 16) (by omega) 5 (.exn "NoBox" fs) .un .un .un
  rw [e2] at l1
  exact one_walk (j := 1) c0 (by decide) (b1 := false) (b2 := true) (b3 := false) (b4 := false) (by decide) (by decide) (by decide) (by decide) (by decide) l1 (fun s2 s5 s6 => by rw [← e3]; exact lc_on2 (by omega) _ _ _ _ _ _) m (gEq_bls _) (gEq_bls [false, true, false, false])
theorem one_NoGap {fs : List (Str × D)} : M_Lone_right [.int 6, .exn "NoGap" fs] = .ok false (.bl true) [] := by
  have c0 : isIn "NoGap" XAll = true := by decide
  have e : flgD "NoGap" = ([false, false, false, false, false, false, true, false, false, false, false, false, false, false, false, false] : List Bool).map D.bl := by unfold flgD; simp only [List.map_cons, List.map_nil, List.cons.injEq, D.bl.injEq, and_true]; decide
  have e2 : onD 16 6 = ([false, false, false, false, false, false, true, false, false, false, false, false, false, false, false, false] : List Bool).map D.bl := rfl
  have e3 : onD 4 1 = ([false, true, false, false] : List Bool).map D.bl := rfl
  have m := mflags (fs := fs) c0
  rw [e] at m
  have l1 := lc_on1 (n := 16) (by omega) 6 (.exn "NoGap" fs) .un .un .un
  rw [e2] at l1
  exact one_walk (j := 1) c0 (by decide) (b1 := false) (b2 := true) (b3 := false) (b4 := false) (by decide) (by decide) (by decide) (by decide) (by decide) l1 (fun s2 s5 s6 => by rw [← e3]; exact lc_on2 (by omega) _ _ _ _ _ _) m (gEq_bls _) (gEq_bls [false, true, false, false])
theorem one_NoIndex {fs : List (Str × D)} : M_Lone_right [.int 7, .exn "NoIndex" fs] = .ok false (.bl true) [] := by
  have c0 : isIn "NoIndex" XAll = true := by decide
  have e : flgD "NoIndex" = ([false, false, false, false, false, false, false, true, false, false, false, false, false, false, false, false] : List Bool).map D.bl := by unfold flgD; simp only [List.map_cons, List.map_nil, List.cons.injEq, D.bl.injEq, and_true]; decide
  have e2 : onD 16 7 = ([false, false, false, false, false, false, false, true, false, false, false, false, false, false, false, false] : List Bool).map D.bl := rfl
  have e3 : onD 4 1 = ([false, true, false, false] : List Bool).map D.bl := rfl
  have m := mflags (fs := fs) c0
  rw [e] at m
  have l1 := lc_on1 (n := 16) (by omega) 7 (.exn "NoIndex" fs) .un .un .un
  rw [e2] at l1
  exact one_walk (j := 1) c0 (by decide) (b1 := false) (b2 := true) (b3 := false) (b4 := false) (by decide) (by decide) (by decide) (by decide) (by decide) l1 (fun s2 s5 s6 => by rw [← e3]; exact lc_on2 (by omega) _ _ _ _ _ _) m (gEq_bls _) (gEq_bls [false, true, false, false])
theorem one_NoNumber {fs : List (Str × D)} : M_Lone_right [.int 8, .exn "NoNumber" fs] = .ok false (.bl true) [] := by
  have c0 : isIn "NoNumber" XAll = true := by decide
  have e : flgD "NoNumber" = ([false, false, false, false, false, false, false, false, true, false, false, false, false, false, false, false] : List Bool).map D.bl := by unfold flgD; simp only [List.map_cons, List.map_nil, List.cons.injEq, D.bl.injEq, and_true]; decide
  have e2 : onD 16 8 = ([false, false, false, false, false, false, false, false, true, false, false, false, false, false, false, false] : List Bool).map D.bl := rfl
  have e3 : onD 4 1 = ([false, true, false, false] : List Bool).map D.bl := rfl
  have m := mflags (fs := fs) c0
  rw [e] at m
  have l1 := lc_on1 (n := 16) (by omega) 8 (.exn "NoNumber" fs) .un .un .un
  rw [e2] at l1
  exact one_walk (j := 1) c0 (by decide) (b1 := false) (b2 := true) (b3 := false) (b4 := false) (by decide) (by decide) (by decide) (by decide) (by decide) l1 (fun s2 s5 s6 => by rw [← e3]; exact lc_on2 (by omega) _ _ _ _ _ _) m (gEq_bls _) (gEq_bls [false, true, false, false])
theorem one_NoState {fs : List (Str × D)} : M_Lone_right [.int 9, .exn "NoState" fs] = .ok false (.bl true) [] := by
  have c0 : isIn "NoState" XAll = true := by decide
  have e : flgD "NoState" = ([false, false, false, false, false, false, false, false, false, true, false, false, false, false, false, false] : List Bool).map D.bl := by unfold flgD; simp only [List.map_cons, List.map_nil, List.cons.injEq, D.bl.injEq, and_true]; decide
  have e2 : onD 16 9 = ([false, false, false, false, false, false, false, false, false, true, false, false, false, false, false, false] : List Bool).map D.bl := rfl
  have e3 : onD 4 1 = ([false, true, false, false] : List Bool).map D.bl := rfl
  have m := mflags (fs := fs) c0
  rw [e] at m
  have l1 := lc_on1 (n := 16) (by omega) 9 (.exn "NoState" fs) .un .un .un
  rw [e2] at l1
  exact one_walk (j := 1) c0 (by decide) (b1 := false) (b2 := true) (b3 := false) (b4 := false) (by decide) (by decide) (by decide) (by decide) (by decide) l1 (fun s2 s5 s6 => by rw [← e3]; exact lc_on2 (by omega) _ _ _ _ _ _) m (gEq_bls _) (gEq_bls [false, true, false, false])
theorem one_Closed {fs : List (Str × D)} : M_Lone_right [.int 10, .exn "Closed" fs] = .ok false (.bl true) [] := by
  have c0 : isIn "Closed" XAll = true := by decide
  have e : flgD "Closed" = ([false, false, false, false, false, false, false, false, false, false, true, false, false, false, false, false] : List Bool).map D.bl := by unfold flgD; simp only [List.map_cons, List.map_nil, List.cons.injEq, D.bl.injEq, and_true]; decide
  have e2 : onD 16 10 = ([false, false, false, false, false, false, false, false, false, false, true, false, false, false, false, false] : List Bool).map D.bl := rfl
  have e3 : onD 4 2 = ([false, false, true, false] : List Bool).map D.bl := rfl
  have m := mflags (fs := fs) c0
  rw [e] at m
  have l1 := lc_on1 (n := 16) (by omega) 10 (.exn "Closed" fs) .un .un .un
  rw [e2] at l1
  exact one_walk (j := 2) c0 (by decide) (b1 := false) (b2 := false) (b3 := true) (b4 := false) (by decide) (by decide) (by decide) (by decide) (by decide) l1 (fun s2 s5 s6 => by rw [← e3]; exact lc_on2 (by omega) _ _ _ _ _ _) m (gEq_bls _) (gEq_bls [false, false, true, false])
theorem one_Outer {fs : List (Str × D)} : M_Lone_right [.int 11, .exn "Outer" fs] = .ok false (.bl true) [] := by
  have c0 : isIn "Outer" XAll = true := by decide
  have e : flgD "Outer" = ([false, false, false, false, false, false, false, false, false, false, false, true, false, false, false, false] : List Bool).map D.bl := by unfold flgD; simp only [List.map_cons, List.map_nil, List.cons.injEq, D.bl.injEq, and_true]; decide
  have e2 : onD 16 11 = ([false, false, false, false, false, false, false, false, false, false, false, true, false, false, false, false] : List Bool).map D.bl := rfl
  have e3 : onD 4 2 = ([false, false, true, false] : List Bool).map D.bl := rfl
  have m := mflags (fs := fs) c0
  rw [e] at m
  have l1 := lc_on1 (n := 16) (by omega) 11 (.exn "Outer" fs) .un .un .un
  rw [e2] at l1
  exact one_walk (j := 2) c0 (by decide) (b1 := false) (b2 := false) (b3 := true) (b4 := false) (by decide) (by decide) (by decide) (by decide) (by decide) l1 (fun s2 s5 s6 => by rw [← e3]; exact lc_on2 (by omega) _ _ _ _ _ _) m (gEq_bls _) (gEq_bls [false, false, true, false])
theorem one_Stuck {fs : List (Str × D)} : M_Lone_right [.int 12, .exn "Stuck" fs] = .ok false (.bl true) [] := by
  have c0 : isIn "Stuck" XAll = true := by decide
  have e : flgD "Stuck" = ([false, false, false, false, false, false, false, false, false, false, false, false, true, false, false, false] : List Bool).map D.bl := by unfold flgD; simp only [List.map_cons, List.map_nil, List.cons.injEq, D.bl.injEq, and_true]; decide
  have e2 : onD 16 12 = ([false, false, false, false, false, false, false, false, false, false, false, false, true, false, false, false] : List Bool).map D.bl := rfl
  have e3 : onD 4 2 = ([false, false, true, false] : List Bool).map D.bl := rfl
  have m := mflags (fs := fs) c0
  rw [e] at m
  have l1 := lc_on1 (n := 16) (by omega) 12 (.exn "Stuck" fs) .un .un .un
  rw [e2] at l1
  exact one_walk (j := 2) c0 (by decide) (b1 := false) (b2 := false) (b3 := true) (b4 := false) (by decide) (by decide) (by decide) (by decide) (by decide) l1 (fun s2 s5 s6 => by rw [← e3]; exact lc_on2 (by omega) _ _ _ _ _ _) m (gEq_bls _) (gEq_bls [false, false, true, false])
theorem one_Blocked {fs : List (Str × D)} : M_Lone_right [.int 13, .exn "Blocked" fs] = .ok false (.bl true) [] := by
  have c0 : isIn "Blocked" XAll = true := by decide
  have e : flgD "Blocked" = ([false, false, false, false, false, false, false, false, false, false, false, false, false, true, false, false] : List Bool).map D.bl := by unfold flgD; simp only [List.map_cons, List.map_nil, List.cons.injEq, D.bl.injEq, and_true]; decide
  have e2 : onD 16 13 = ([false, false, false, false, false, false, false, false, false, false, false, false, false, true, false, false] : List Bool).map D.bl := rfl
  have e3 : onD 4 2 = ([false, false, true, false] : List Bool).map D.bl := rfl
  have m := mflags (fs := fs) c0
  rw [e] at m
  have l1 := lc_on1 (n := 16) (by omega) 13 (.exn "Blocked" fs) .un .un .un
  rw [e2] at l1
  exact one_walk (j := 2) c0 (by decide) (b1 := false) (b2 := false) (b3 := true) (b4 := false) (by decide) (by decide) (by decide) (by decide) (by decide) l1 (fun s2 s5 s6 => by rw [← e3]; exact lc_on2 (by omega) _ _ _ _ _ _) m (gEq_bls _) (gEq_bls [false, false, true, false])
theorem one_TooMany {fs : List (Str × D)} : M_Lone_right [.int 14, .exn "TooMany" fs] = .ok false (.bl true) [] := by
  have c0 : isIn "TooMany" XAll = true := by decide
  have e : flgD "TooMany" = ([false, false, false, false, false, false, false, false, false, false, false, false, false, false, true, false] : List Bool).map D.bl := by unfold flgD; simp only [List.map_cons, List.map_nil, List.cons.injEq, D.bl.injEq, and_true]; decide
  have e2 : onD 16 14 = ([false, false, false, false, false, false, false, false, false, false, false, false, false, false, true, false] : List Bool).map D.bl := rfl
  have e3 : onD 4 3 = ([false, false, false, true] : List Bool).map D.bl := rfl
  have m := mflags (fs := fs) c0
  rw [e] at m
  have l1 := lc_on1 (n := 16) (by omega) 14 (.exn "TooMany" fs) .un .un .un
  rw [e2] at l1
  exact one_walk (j := 3) c0 (by decide) (b1 := false) (b2 := false) (b3 := false) (b4 := true) (by decide) (by decide) (by decide) (by decide) (by decide) l1 (fun s2 s5 s6 => by rw [← e3]; exact lc_on2 (by omega) _ _ _ _ _ _) m (gEq_bls _) (gEq_bls [false, false, false, true])
theorem one_Full {fs : List (Str × D)} : M_Lone_right [.int 15, .exn "Full" fs] = .ok false (.bl true) [] := by
  have c0 : isIn "Full" XAll = true := by decide
  have e : flgD "Full" = ([false, false, false, false, false, false, false, false, false, false, false, false, false, false, false, true] : List Bool).map D.bl := by unfold flgD; simp only [List.map_cons, List.map_nil, List.cons.injEq, D.bl.injEq, and_true]; decide
  have e2 : onD 16 15 = ([false, false, false, false, false, false, false, false, false, false, false, false, false, false, false, true] : List Bool).map D.bl := rfl
  have e3 : onD 4 3 = ([false, false, false, true] : List Bool).map D.bl := rfl
  have m := mflags (fs := fs) c0
  rw [e] at m
  have l1 := lc_on1 (n := 16) (by omega) 15 (.exn "Full" fs) .un .un .un
  rw [e2] at l1
  exact one_walk (j := 3) c0 (by decide) (b1 := false) (b2 := false) (b3 := false) (b4 := true) (by decide) (by decide) (by decide) (by decide) (by decide) l1 (fun s2 s5 s6 => by rw [← e3]; exact lc_on2 (by omega) _ _ _ _ _ _) m (gEq_bls _) (gEq_bls [false, false, false, true])
def madeD (r s : Int) (w : Str) : List D := [.exn "Duplicate" [("size", .int r)], .exn "NotFull" [("many", .int s)], .exn "OtherNesting" [], .exn "BadText" [("text", .str w)], .exn "BadLine" [("number", .int s)], .exn "NoBox" [("place", .int s)], .exn "NoGap" [("gap", .int s)], .exn "NoIndex" [("index", .int s)], .exn "NoNumber" [("number", .int r)], .exn "NoState" [("many", .int r)], .exn "Closed" [("gap", .int s)], .exn "Outer" [("place", .int s)], .exn "Stuck" [("place", .int s)], .exn "Blocked" [("index", .int s)], .exn "TooMany" [("many", .int r)], .exn "Full" [("many", .int 12)]]
def toldD (r s : Int) (w : Str) : List D := [.int r, .int s, .str w, .int s, .int s, .int s, .int s, .int r, .int r, .int s, .int s, .int s, .int s, .int r, .int 12]
theorem all_one (r s : Int) (w : Str) (s0 s1 s2 s3 s4 s5 s6 s7 s8 : Sl) : ∃ ys, lcL [9, 10] (.many [9, 10]) dYes E_Lright_k25_1 (enumD (madeD r s w)) [] [s0, s1, s2, s3, s4, s5, s6, s7, s8, .un, .un] = .ok ys [s0, s1, s2, s3, s4, s5, s6, s7, s8, .un, .un] ∧ gAll [.lst ys] = some (.v (.bl true)) := by
  have hl := lc_inv (vs := [9, 10]) (t := .many [9, 10]) (c := dYes) (e := E_Lright_k25_1) (I := fun _ L => L = [s0, s1, s2, s3, s4, s5, s6, s7, s8, .un, .un]) (F := fun _ y => y = .bl true)
    (enumD (madeD r s w)) 0 [] [s0, s1, s2, s3, s4, s5, s6, s7, s8, .un, .un] rfl (by show 0 + 16 ≤ 1000000; omega) ?_
  · obtain ⟨ys, L', h1, h2, h3, h4⟩ := hl
    subst h4
    exact ⟨ys, by simpa using h1, all_true (fun j y hy => h3 j y hy)⟩
  · intro j x L hx hL
    subst hL
    have go : ∀ (i : Int) (d : D), M_Lone_right [.int i, d] = .ok false (.bl true) [] → x = .tup [.int i, d] → ∃ L1 L2 r L3 y L4, tgSet (.many [9, 10]) x [s0, s1, s2, s3, s4, s5, s6, s7, s8, .un, .un] = some L1 ∧ dYes L1 = .ok true L2 ∧ E_Lright_k25_1 L2 = .ok r L3 ∧ fz L3 r = some (y, L4) ∧ y = .bl true ∧ wipeL L4 [9, 10] = [s0, s1, s2, s3, s4, s5, s6, s7, s8, .un, .un] := fun i d hm hx => by
      subst hx
      refine ⟨[s0, s1, s2, s3, s4, s5, s6, s7, s8, .val (.int i), .val d], _, .v (.bl true), [s0, s1, s2, s3, s4, s5, s6, s7, s8, .val (.int i), .val d], .bl true, [s0, s1, s2, s3, s4, s5, s6, s7, s8, .val (.int i), .val d], rfl, rfl, ?_, rfl, rfl, rfl⟩
      unfold E_Lright_k25_1
      generalize M_Lone_right = q at *
      walk_at "dh"
    have hj : j < 16 := (List.getElem?_eq_some_iff.mp hx).1
    match j, hj, hx with
    | 0, _, hx => exact go _ _ one_Duplicate (Option.some.inj hx).symm
    | 1, _, hx => exact go _ _ one_NotFull (Option.some.inj hx).symm
    | 2, _, hx => exact go _ _ one_OtherNesting (Option.some.inj hx).symm
    | 3, _, hx => exact go _ _ one_BadText (Option.some.inj hx).symm
    | 4, _, hx => exact go _ _ one_BadLine (Option.some.inj hx).symm
    | 5, _, hx => exact go _ _ one_NoBox (Option.some.inj hx).symm
    | 6, _, hx => exact go _ _ one_NoGap (Option.some.inj hx).symm
    | 7, _, hx => exact go _ _ one_NoIndex (Option.some.inj hx).symm
    | 8, _, hx => exact go _ _ one_NoNumber (Option.some.inj hx).symm
    | 9, _, hx => exact go _ _ one_NoState (Option.some.inj hx).symm
    | 10, _, hx => exact go _ _ one_Closed (Option.some.inj hx).symm
    | 11, _, hx => exact go _ _ one_Outer (Option.some.inj hx).symm
    | 12, _, hx => exact go _ _ one_Stuck (Option.some.inj hx).symm
    | 13, _, hx => exact go _ _ one_Blocked (Option.some.inj hx).symm
    | 14, _, hx => exact go _ _ one_TooMany (Option.some.inj hx).symm
    | 15, _, hx => exact go _ _ one_Full (Option.some.inj hx).symm
theorem right25_b {r s : Int} {w : Str} {b3 m mo : D} (ms : M_Lsame [.lst (toldD r s w), .lst (toldD r s w)] = .ok false (.bl true) []) :
    dKA [6, 7, 8] B_Lright_k25_1 [.obj (.io 0) b3, .val (.int s), .val (.int r), .val (.str w), .val m, .val mo, .val (.lst (madeD r s w)), .un, .un, .un, .un] = .nx [.obj (.io 0) b3, .val (.int s), .val (.int r), .val (.str w), .val m, .val mo, .un, .un, .un, .un, .un] := by
  obtain ⟨ys, lc, al⟩ := all_one r s w (.obj (.io 0) b3) (.val (.int s)) (.val (.int r)) (.val (.str w)) (.val m) (.val mo) (.val (.lst (madeD r s w))) .un .un
  have x0 : gIx (.lst (madeD r s w)) (.int 0) = some (.v (.exn "Duplicate" [("size", .int r)])) := rfl
  have x1 : gIx (.lst (madeD r s w)) (.int 1) = some (.v (.exn "NotFull" [("many", .int s)])) := rfl
  have x3 : gIx (.lst (madeD r s w)) (.int 3) = some (.v (.exn "BadText" [("text", .str w)])) := rfl
  have x4 : gIx (.lst (madeD r s w)) (.int 4) = some (.v (.exn "BadLine" [("number", .int s)])) := rfl
  have x5 : gIx (.lst (madeD r s w)) (.int 5) = some (.v (.exn "NoBox" [("place", .int s)])) := rfl
  have x6 : gIx (.lst (madeD r s w)) (.int 6) = some (.v (.exn "NoGap" [("gap", .int s)])) := rfl
  have x7 : gIx (.lst (madeD r s w)) (.int 7) = some (.v (.exn "NoIndex" [("index", .int s)])) := rfl
  have x8 : gIx (.lst (madeD r s w)) (.int 8) = some (.v (.exn "NoNumber" [("number", .int r)])) := rfl
  have x9 : gIx (.lst (madeD r s w)) (.int 9) = some (.v (.exn "NoState" [("many", .int r)])) := rfl
  have x10 : gIx (.lst (madeD r s w)) (.int 10) = some (.v (.exn "Closed" [("gap", .int s)])) := rfl
  have x11 : gIx (.lst (madeD r s w)) (.int 11) = some (.v (.exn "Outer" [("place", .int s)])) := rfl
  have x12 : gIx (.lst (madeD r s w)) (.int 12) = some (.v (.exn "Stuck" [("place", .int s)])) := rfl
  have x13 : gIx (.lst (madeD r s w)) (.int 13) = some (.v (.exn "Blocked" [("index", .int s)])) := rfl
  have x14 : gIx (.lst (madeD r s w)) (.int 14) = some (.v (.exn "TooMany" [("many", .int r)])) := rfl
  have x15 : gIx (.lst (madeD r s w)) (.int 15) = some (.v (.exn "Full" [("many", .int 12)])) := rfl
  have f0 : fldB "Duplicate" "size" "size" XAll = true := by decide
  have f1 : fldB "NotFull" "many" "many" XAll = true := by decide
  have f3 : fldB "BadText" "text" "text" XAll = true := by decide
  have f4 : fldB "BadLine" "number" "number" XAll = true := by decide
  have f5 : fldB "NoBox" "place" "place" XAll = true := by decide
  have f6 : fldB "NoGap" "gap" "gap" XAll = true := by decide
  have f7 : fldB "NoIndex" "index" "index" XAll = true := by decide
  have f8 : fldB "NoNumber" "number" "number" XAll = true := by decide
  have f9 : fldB "NoState" "many" "many" XAll = true := by decide
  have f10 : fldB "Closed" "gap" "gap" XAll = true := by decide
  have f11 : fldB "Outer" "place" "place" XAll = true := by decide
  have f12 : fldB "Stuck" "place" "place" XAll = true := by decide
  have f13 : fldB "Blocked" "index" "index" XAll = true := by decide
  have f14 : fldB "TooMany" "many" "many" XAll = true := by decide
  have f15 : fldB "Full" "many" "many" XAll = true := by decide
  have l1 : lenOk 1 = true := rfl
  have l2 : lenOk 2 = true := rfl
  have l3 : lenOk 3 = true := rfl
  have l4 : lenOk 4 = true := rfl
  have l5 : lenOk 5 = true := rfl
  have l6 : lenOk 6 = true := rfl
  have l7 : lenOk 7 = true := rfl
  have l10 : lenOk 10 = true := rfl
  have q13 : lenOk 13 = true := rfl
  have q15 : lenOk 15 = true := rfl
  unfold toldD at ms
  unfold B_Lright_k25_1
  generalize M_Lsame = q at *
  generalize E_Lright_k25_1 = e at *
  generalize madeD r s w = M at *
  walk_at "dh"
theorem right25_w {b b1 b2 b3 : D} {r s : Int} {x t : Int} {w1 w : Str} (k1 : M_Ltake [b, .int 50] = .ok false (.int x) [b1]) (hs : x - 1 = s) (p9 : gPow (.int 10) (.int 9) = some (.v (.int 1000000000))) (k2 : M_Ltake [b1, .int 1000000000] = .ok false (.int t) [b2]) (hr : t - 5 = r)
    {u : Int} (k3 : M_Ltake [b2, .int 99] = .ok false (.int u) [b3]) (g1 : gStr [.int u] = some (.v (.str w1))) (a1 : lenOk (Str.length "1 " + w1.length) = true) (a2 : lenOk (Str.length ("1 " ++ w1) + Str.length " x") = true) (ew : "1 " ++ w1 ++ " x" = w)
    (lp : forL (.one 6) (dKA [6, 7, 8] B_Lright_k25_1) [.lst (madeD r s w), .lst (madeD r s w)] [.obj (.io 0) b3, .val (.int s), .val (.int r), .val (.str w), .val (.lst (madeD r s w)), .val (.lst (madeD r s w)), .un, .un, .un, .un, .un] = .nx [.obj (.io 0) b3, .val (.int s), .val (.int r), .val (.str w), .val (.lst (madeD r s w)), .val (.lst (madeD r s w)), .un, .un, .un, .un, .un]) :
    M_Lright_k25 [b] = .ok false (.bl true) [b3] := by
  have l1 : lenOk 1 = true := rfl
  have l2 : lenOk 2 = true := rfl
  have l3 : lenOk 3 = true := rfl
  have l4 : lenOk 4 = true := rfl
  have l5 : lenOk 5 = true := rfl
  have l6 : lenOk 6 = true := rfl
  have l7 : lenOk 7 = true := rfl
  have l10 : lenOk 10 = true := rfl
  have q9 : lenOk 9 = true := rfl
  have q10 : lenOk 10 = true := rfl
  have q14 : lenOk 14 = true := rfl
  have q16 : lenOk 16 = true := rfl
  unfold madeD at lp
  subst hs hr ew
  show noExc (runF [.io] 11 g_Lright_k25) _ = _
  unfold g_Lright_k25
  generalize M_Ltake = q at *
  generalize dKA [6, 7, 8] B_Lright_k25_1 = W at *
  generalize hgs : gStr = gs at *
  generalize hgp : gPow = gp at *
  walk_at "dh"
def wT (t : Nat) : Str := "1 " ++ (toString (t : Int) : Str) ++ " x"
theorem wT_ok : ∀ t : Nat, t < 99 → lenOk (Str.length "1 " + Str.length (toString (t : Int))) = true ∧ lenOk (Str.length ("1 " ++ (toString (t : Int) : Str)) + Str.length " x") = true ∧ SeqAt.shaped (.str (wT t)) = true ∧ PyData.eqv (.str (wT t)) (.str (wT t)) = true := by decide +kernel
theorem gEq_wT {t : Nat} (h : t < 99) : gEq (.str (wT t)) (.str (wT t)) = some (.v (.bl true)) := by
  obtain ⟨_, _, h1, h2⟩ := wT_ok t h
  show gEqB false _ _ = _
  unfold gEqB
  simp only [D.py, h1, h2, Bool.and_self, if_true]
  rfl
theorem mright25 {b : D} {m : Int} (hb : Box m b) (hm : m ≤ 500000) : ∃ b', M_Lright_k25 [b] = .ok false (.bl true) [b'] ∧ Box (m + 100) b' := by
  obtain ⟨x, b1, k1, k2, k3, k4⟩ := mtake (span := 50) hb (by omega) (by omega) (by omega)
  obtain ⟨y, b2, l1, l2, l3, l4⟩ := mtake_big (span := 1000000000) k4 (by omega) (by omega) (by omega)
  obtain ⟨u, b3, j1, j2, j3, j4⟩ := mtake (span := 99) l4 (by omega) (by omega) (by omega)
  refine ⟨b3, ?_, j4.mono (by omega)⟩
  obtain ⟨t, rfl⟩ : ∃ t : Nat, u = (t : Int) := ⟨u.toNat, by omega⟩
  have ht : t < 99 := by omega
  obtain ⟨w1, w2, _, _⟩ := wT_ok t ht
  have gs : gStr [.int (t : Int)] = some (.v (.str (toString (t : Int)))) := by
    show (if decide (((t : Int)).natAbs < 2 ^ 1000) = true then _ else _) = _
    rw [decide_eq_true (Nat.lt_of_lt_of_le (show ((t : Int)).natAbs < 2 ^ 7 by omega) (Nat.pow_le_pow_right (by omega) (by omega))), if_pos rfl]
  have p9 : gPow (.int 10) (.int 9) = some (.v (.int 1000000000)) := by rfl
  refine right25_w k1 rfl p9 l1 rfl j1 gs w1 w2 rfl (forL_same _ fun d hd => ⟨_, S0.s_tg1 .., ?_⟩)
  have e : d = .lst (madeD (y - 5) (x - 1) (wT t)) := by
    rcases List.mem_cons.mp hd with e | e
    · exact e
    · exact List.mem_singleton.mp e
  subst e
  refine right25_b (msame (n := 1) (Pl.lst (by show 15 ≤ 1000000; omega) fun d hd => ?_) (by omega))
  unfold toldD at hd
  simp only [List.mem_cons, List.not_mem_nil, or_false] at hd
  rcases hd with rfl | rfl | rfl | rfl | rfl | rfl | rfl | rfl | rfl | rfl | rfl | rfl | rfl | rfl | rfl
  all_goals first | exact .int _ | exact .str _ (gEq_wT ht)
end PI
end
section
set_option Elab.async false
set_option linter.all false
set_option maxRecDepth 100000
set_option maxHeartbeats 4000000
namespace PI
open PySem PySem.Spec PyProof.Rows L2 DV PySem.W
/-! ### the law, whole -/
theorem law_lc_k25 {ns : List Int} {k : Int} {b : D} (hb : Box 0 b) : ∃ ys b', lcL [3] (.one 3) dYes E_law_k25_1 (rgD 0 1 2) [] [.val (.scr ns), .val (.int k), .obj .own b, .un] = .ok ys [.val (.scr ns), .val (.int k), .obj .own b', .un] ∧ gAll [.lst ys] = some (.v (.bl true)) := by
  have hl := lc_inv (vs := [3]) (t := .one 3) (c := dYes) (e := E_law_k25_1) (I := fun i L => ∃ b, L = [.val (.scr ns), .val (.int k), .obj .own b, .un] ∧ Box (100 * i) b) (F := fun _ y => y = .bl true)
    (rgD 0 1 2) 0 [] [.val (.scr ns), .val (.int k), .obj .own b, .un] ⟨b, rfl, by simpa using hb⟩ (by simp [rgD_len]) ?_
  · obtain ⟨ys, L', h1, h2, h3, b', rfl, h4⟩ := hl
    exact ⟨ys, b', by simpa using h1, all_true (fun j y hy => h3 j y hy)⟩
  · intro j x L hx hL
    obtain ⟨b, rfl, hb⟩ := hL
    obtain ⟨rfl, hj⟩ := rg0_at hx
    obtain ⟨b', k1, k2⟩ := mright25 hb (by omega)
    refine ⟨[.val (.scr ns), .val (.int k), .obj .own b, .val (.int j)], _, .v (.bl true), [.val (.scr ns), .val (.int k), .obj .own b', .val (.int j)], .bl true, [.val (.scr ns), .val (.int k), .obj .own b', .val (.int j)], rfl, rfl, ?_, rfl, rfl, b', rfl, k2.mono (by omega)⟩
    unfold E_law_k25_1
    generalize M_Lright_k25 = q at *
    walk_at "dh"
theorem mlaw_k25 {ns : List Int} (hn : ns.length ≤ 63) : M_law_k25 [.scr ns] = .ok false (.bl true) [] := by
  have hlp := for_inv (t := .one 1) (g := dKA [1, 2] B_law_k25_1) (I := fun _ L => L = [.val (.scr ns), .un, .un, .un]) (rgD 0 1 (1 + (if (ns.length : Int) < 3 then (ns.length : Int) else 3)).toNat) 0 [.val (.scr ns), .un, .un, .un] rfl ?_
  · obtain ⟨L', p1, rfl⟩ := hlp
    have e1 : rgOk (1 + (if (ns.length : Int) < 3 then (ns.length : Int) else 3)) = true := rgOk_of (by split <;> omega) (by split <;> omega)
    show noExc (runF [.val] 4 g_law_k25) _ = _
    unfold g_law_k25
    generalize dKA [1, 2] B_law_k25_1 = W at p1 ⊢
    walk_at "dh"
  · intro j d L hd hI
    obtain ⟨rfl, hj⟩ := rg0_at hd
    subst hI
    obtain ⟨b, h1, h2⟩ := mbox (ns := ns) (k := (j : Int)) (by omega) (by split at hj <;> omega)
    obtain ⟨ys, b', h3, h4⟩ := law_lc_k25 (ns := ns) (k := (j : Int)) h2
    refine ⟨_, [.val (.scr ns), .un, .un, .un], S0.s_tg1 .., .inl ?_, rfl⟩
    have e1 : rgOk 2 = true := rfl
    have e2 : (2 : Int).toNat = 2 := rfl
    show dKA [1, 2] B_law_k25_1 [.val (.scr ns), .val (.int (j : Int)), .un, .un] = _
    unfold B_law_k25_1
    generalize E_law_k25_1 = e at *
    generalize M_Lbox = q at *
    walk_at "dh"
end PI
end
section
set_option Elab.async false
set_option linter.all false
set_option maxRecDepth 100000
set_option maxHeartbeats 4000000
namespace K25
open PySem PySem.Spec PyProof.Rows L2 DV PI
def top (i : Nat) : Stmt := PySem.Challenge.pw_putinside_k25_error_classes.main.body.getD i (.Pass ⟨0, 0, 0, 0⟩)
abbrev XS : List Str := ["OtherNesting", "Duplicate", "NotFull", "BadText", "BadLine", "NoBox", "NoGap", "NoIndex", "NoNumber", "NoState", "Closed", "Outer", "Stuck", "Blocked", "TooMany", "Full"]
abbrev s_Lbox : Stmt := top 18
abbrev N_Lbox : List Str := ["_law_script", "_law_k", "_law_cell"]
abbrev P_Lbox : List Str := ["_law_script", "_law_k"]
theorem sc_Lbox : FnScope N_Lbox P_Lbox (defScope s_Lbox) := ⟨rfl, rfl, rfl, by decide +kernel, rfl, by decide +kernel, by decide +kernel⟩
theorem bd_Lbox : BindP "_law_box" (defArgs s_Lbox) (defBody s_Lbox) (defScope s_Lbox) P_Lbox := fun _ _ _ _ _ _ us hl => match us, hl with | [_, _], _ => rfl
abbrev s_Ltake : Stmt := top 19
abbrev N_Ltake : List Str := ["_law_box_here", "_law_span", "_law_found", "_law_once"]
abbrev P_Ltake : List Str := ["_law_box_here", "_law_span"]
theorem sc_Ltake : FnScope N_Ltake P_Ltake (defScope s_Ltake) := ⟨rfl, rfl, rfl, by decide +kernel, rfl, by decide +kernel, by decide +kernel⟩
theorem bd_Ltake : BindP "_law_take" (defArgs s_Ltake) (defBody s_Ltake) (defScope s_Ltake) P_Ltake := fun _ _ _ _ _ _ us hl => match us, hl with | [_, _], _ => rfl
abbrev s_Lsame : Stmt := top 20
abbrev N_Lsame : List Str := ["_law_found", "_law_due", "_law_mine", "_law_its"]
abbrev P_Lsame : List Str := ["_law_found", "_law_due"]
theorem sc_Lsame : FnScope N_Lsame P_Lsame (defScope s_Lsame) := ⟨rfl, rfl, rfl, by decide +kernel, rfl, by decide +kernel, by decide +kernel⟩
theorem bd_Lsame : BindP "_law_same" (defArgs s_Lsame) (defBody s_Lsame) (defScope s_Lsame) P_Lsame := fun _ _ _ _ _ _ us hl => match us, hl with | [_, _], _ => rfl
abbrev s_Lflags : Stmt := top 21
abbrev N_Lflags : List Str := ["_law_caught", "_law_some"]
abbrev P_Lflags : List Str := ["_law_caught"]
theorem sc_Lflags : FnScope N_Lflags P_Lflags (defScope s_Lflags) := ⟨rfl, rfl, rfl, by decide +kernel, rfl, by decide +kernel, by decide +kernel⟩
theorem bd_Lflags : BindP "_law_flags" (defArgs s_Lflags) (defBody s_Lflags) (defScope s_Lflags) P_Lflags := fun _ _ _ _ _ _ us hl => match us, hl with | [_], _ => rfl
abbrev s_Lone_right : Stmt := top 22
abbrev N_Lone_right : List Str := ["_law_at", "_law_caught", "_law_some", "_law_k", "_law_group", "_law_bases", "_law_odd"]
abbrev P_Lone_right : List Str := ["_law_at", "_law_caught"]
theorem sc_Lone_right : FnScope N_Lone_right P_Lone_right (defScope s_Lone_right) := ⟨rfl, rfl, rfl, by decide +kernel, rfl, by decide +kernel, by decide +kernel⟩
theorem bd_Lone_right : BindP "_law_one_right" (defArgs s_Lone_right) (defBody s_Lone_right) (defScope s_Lone_right) P_Lone_right := fun _ _ _ _ _ _ us hl => match us, hl with | [_, _], _ => rfl
abbrev s_Lright_k25 : Stmt := top 23
abbrev N_Lright_k25 : List Str := ["_law_box_here", "_law_spot_now", "_law_rank", "_law_written", "_law_made", "_law_more", "_law_some", "_law_told", "_law_due", "_law_at", "_law_caught"]
abbrev P_Lright_k25 : List Str := ["_law_box_here"]
theorem sc_Lright_k25 : FnScope N_Lright_k25 P_Lright_k25 (defScope s_Lright_k25) := ⟨rfl, rfl, rfl, by decide +kernel, rfl, by decide +kernel, by decide +kernel⟩
theorem bd_Lright_k25 : BindP "_law_right" (defArgs s_Lright_k25) (defBody s_Lright_k25) (defScope s_Lright_k25) P_Lright_k25 := fun _ _ _ _ _ _ us hl => match us, hl with | [_], _ => rfl
abbrev s_law_k25 : Stmt := top 24
abbrev N_law_k25 : List Str := ["_law_script", "_law_k", "_law_box_here", "_law_turn"]
abbrev P_law_k25 : List Str := ["_law_script"]
theorem sc_law_k25 : FnScope N_law_k25 P_law_k25 (defScope s_law_k25) := ⟨rfl, rfl, rfl, by decide +kernel, rfl, by decide +kernel, by decide +kernel⟩
theorem bd_law_k25 : BindP "law" (defArgs s_law_k25) (defBody s_law_k25) (defScope s_law_k25) P_law_k25 := fun _ _ _ _ _ _ us hl => match us, hl with | [_], _ => rfl
/-- what the top has written -/
structure Tx (K : PySem.W.Frag) (mg : Str → Option Value) : Prop where
  b_IndexError : mg "IndexError" = none
  b_KeyError : mg "KeyError" = none
  b_LookupError : mg "LookupError" = none
  b_NotImplementedError : mg "NotImplementedError" = none
  b_OverflowError : mg "OverflowError" = none
  b_RuntimeError : mg "RuntimeError" = none
  b_ValueError : mg "ValueError" = none
  b_abs : mg "abs" = none
  b_all : mg "all" = none
  b_bool : mg "bool" = none
  b_enumerate : mg "enumerate" = none
  b_int : mg "int" = none
  b_isinstance : mg "isinstance" = none
  b_len : mg "len" = none
  b_list : mg "list" = none
  b_min : mg "min" = none
  b_range : mg "range" = none
  b_str : mg "str" = none
  b_super : mg "super" = none
  b_tuple : mg "tuple" = none
  b_zip : mg "zip" = none
  g_Lbox : mg "_law_box" = some (.ref (He.ga K "_law_box"))
  d_Lbox : ∃ fd, FunD K "_law_box" "_law_box" (defArgs s_Lbox) (defBody s_Lbox) (defScope s_Lbox) [] [] (He.ga K "_law_box") fd
  g_Ltake : mg "_law_take" = some (.ref (He.ga K "_law_take"))
  d_Ltake : ∃ fd, FunD K "_law_take" "_law_take" (defArgs s_Ltake) (defBody s_Ltake) (defScope s_Ltake) [] [] (He.ga K "_law_take") fd
  g_Lsame : mg "_law_same" = some (.ref (He.ga K "_law_same"))
  d_Lsame : ∃ fd, FunD K "_law_same" "_law_same" (defArgs s_Lsame) (defBody s_Lsame) (defScope s_Lsame) [] [] (He.ga K "_law_same") fd
  g_Lflags : mg "_law_flags" = some (.ref (He.ga K "_law_flags"))
  d_Lflags : ∃ fd, FunD K "_law_flags" "_law_flags" (defArgs s_Lflags) (defBody s_Lflags) (defScope s_Lflags) [] [] (He.ga K "_law_flags") fd
  g_Lone_right : mg "_law_one_right" = some (.ref (He.ga K "_law_one_right"))
  d_Lone_right : ∃ fd, FunD K "_law_one_right" "_law_one_right" (defArgs s_Lone_right) (defBody s_Lone_right) (defScope s_Lone_right) [] [] (He.ga K "_law_one_right") fd
  g_Lright : mg "_law_right" = some (.ref (He.ga K "_law_right"))
  d_Lright : ∃ fd, FunD K "_law_right" "_law_right" (defArgs s_Lright_k25) (defBody s_Lright_k25) (defScope s_Lright_k25) [] [] (He.ga K "_law_right") fd
  g_law : mg "law" = some (.ref (He.ga K "law"))
  d_law : ∃ fd, FunD K "law" "law" (defArgs s_law_k25) (defBody s_law_k25) (defScope s_law_k25) [] [] (He.ga K "law") fd
variable {P : Program} {w : World} {K : PySem.W.Frag} {mg : Str → Option Value} {base : Heap}
theorem mk_OtherNesting (TX : ExT P K mg XS) : DVX.ExC0 P K mg (He.ga K "OtherNesting") := TX.made0 "OtherNesting" (by decide) rfl
theorem mk_Duplicate (TX : ExT P K mg XS) : DVX.ExC1 P K mg (He.ga K "Duplicate") "size" := TX.made "Duplicate" (by decide) (by decide)
theorem mk_NotFull (TX : ExT P K mg XS) : DVX.ExC1 P K mg (He.ga K "NotFull") "many" := TX.made "NotFull" (by decide) (by decide)
theorem mk_BadText (TX : ExT P K mg XS) : DVX.ExC1 P K mg (He.ga K "BadText") "text" := TX.made "BadText" (by decide) (by decide)
theorem mk_BadLine (TX : ExT P K mg XS) : DVX.ExC1 P K mg (He.ga K "BadLine") "number" := TX.made "BadLine" (by decide) (by decide)
theorem mk_NoBox (TX : ExT P K mg XS) : DVX.ExC1 P K mg (He.ga K "NoBox") "place" := TX.made "NoBox" (by decide) (by decide)
theorem mk_NoGap (TX : ExT P K mg XS) : DVX.ExC1 P K mg (He.ga K "NoGap") "gap" := TX.made "NoGap" (by decide) (by decide)
theorem mk_NoIndex (TX : ExT P K mg XS) : DVX.ExC1 P K mg (He.ga K "NoIndex") "index" := TX.made "NoIndex" (by decide) (by decide)
theorem mk_NoNumber (TX : ExT P K mg XS) : DVX.ExC1 P K mg (He.ga K "NoNumber") "number" := TX.made "NoNumber" (by decide) (by decide)
theorem mk_NoState (TX : ExT P K mg XS) : DVX.ExC1 P K mg (He.ga K "NoState") "many" := TX.made "NoState" (by decide) (by decide)
theorem mk_Closed (TX : ExT P K mg XS) : DVX.ExC1 P K mg (He.ga K "Closed") "gap" := TX.made "Closed" (by decide) (by decide)
theorem mk_Outer (TX : ExT P K mg XS) : DVX.ExC1 P K mg (He.ga K "Outer") "place" := TX.made "Outer" (by decide) (by decide)
theorem mk_Stuck (TX : ExT P K mg XS) : DVX.ExC1 P K mg (He.ga K "Stuck") "place" := TX.made "Stuck" (by decide) (by decide)
theorem mk_Blocked (TX : ExT P K mg XS) : DVX.ExC1 P K mg (He.ga K "Blocked") "index" := TX.made "Blocked" (by decide) (by decide)
theorem mk_TooMany (TX : ExT P K mg XS) : DVX.ExC1 P K mg (He.ga K "TooMany") "many" := TX.made "TooMany" (by decide) (by decide)
theorem mk_Full (TX : ExT P K mg XS) : DVX.ExC1 P K mg (He.ga K "Full") "many" := TX.made "Full" (by decide) (by decide)
theorem ok_Lbox (T : Tx K mg) (TX : ExT P K mg XS) : Callee P w K mg base 1 "_law_box" P_Lbox [.val, .val] M_Lbox := by
  obtain ⟨fd, F⟩ := T.d_Lbox
  refine Callee.mk2 (k := 0) F T.g_Lbox sc_Lbox bd_Lbox rfl (by decide) fun cdv A outer s H E hr => ?_
  have nd := sc_Lbox.nd
  exact (dss_cons (ds_asg (i := 2) nd rfl (by first | exact Or.inl rfl | exact Or.inr rfl) de_int) (dss_cons (ds_if (dt_cmp op_lt snd_lt (dv 1) (de_callB call_len snd_len rfl T.b_len PyProof.Rows.Boot.«len» (da_cons (dv 0) da_nil)) (nomark _)) (dss_one (ds_asg (i := 2) nd rfl (by first | exact Or.inl rfl | exact Or.inr rfl) (de_ix ix_seq snd_ix (dv 0) (dv 1) (fun _ _ => rfl)))) dss_nop) (dss_one (ds_ret (de_lst (df_cons (de_op op_mulAA snd_mul (de_callB call_abs snd_abs rfl T.b_abs PyProof.Rows.Boot.«abs» (da_cons (dv 2) da_nil)) (de_callTy call_int1 snd_int rfl T.b_int PyProof.Rows.Boot.«int» (da_cons (de_cmp op_ge snd_ge (de_callB call_abs snd_abs rfl T.b_abs PyProof.Rows.Boot.«abs» (da_cons (dv 2) da_nil)) (de_op op_pow snd_pow de_int de_int) (nomark _)) da_nil))) (df_cons (de_op op_mod snd_mod (de_op op_mulAA snd_mul (de_op op_addA snd_add (de_op op_addA snd_add (de_op op_mod snd_mod (dv 2) de_int) (de_op op_mulAA snd_mul de_int (dv 1))) de_int) de_int) de_int) (df_cons de_int df_nil))))))))
theorem okR_Ltake (T : Tx K mg) (TX : ExT P K mg XS) : ∀ n, Callee P w K mg base (1 + n) "_law_take" P_Ltake [.io, .val] (R_Ltake n)
  | 0 => by
    obtain ⟨fd, F⟩ := T.d_Ltake
    exact Callee.zero2 F T.g_Ltake bd_Ltake
  | n + 1 => by
    have C_Ltake := okR_Ltake T TX n
    obtain ⟨fd, F⟩ := T.d_Ltake
    refine Callee.mk2 (k := 1 + n) F T.g_Ltake sc_Ltake bd_Ltake rfl (by decide) fun cdv A outer s H E hr => ?_
    have nd := sc_Ltake.nd
    exact (dss_cons (ds_if (dt_cmp op_gt snd_gt (de_ix ix_seq snd_ix (dv 0) de_int (fun _ _ => rfl)) de_int (nomark _)) (dss_cons (ds_asg (i := 2) nd rfl (by first | exact Or.inl rfl | exact Or.inr rfl) (de_op op_mod snd_mod (de_ix ix_seq snd_ix (dv 0) de_int (fun _ _ => rfl)) (dv 1))) (dss_cons (ds_store (de_op op_fdivW snd_fdiv (de_ix ix_seq snd_ix (dv 0) de_int (fun _ _ => rfl)) (dv 1)) (dv 0) de_int) (dss_one (ds_ret (dv 2))))) dss_nop) (dss_cons (ds_if (dt_cmp op_gt snd_gt (dv 1) (de_op op_pow snd_pow de_int de_int) (nomark _)) (dss_one (ds_ret (de_op op_mod snd_mod (de_op op_addA snd_add (de_fz (de_fn C_Ltake (hr.mono (by omega)) rfl (da_cons (dv 0) (da_fcons (de_op op_pow snd_pow de_int de_int) da_nil)))) (de_op op_mulAA snd_mul (de_op op_pow snd_pow de_int de_int) (de_fz (de_fn C_Ltake (hr.mono (by omega)) rfl (da_cons (dv 0) (da_fcons (de_op op_addA snd_add (de_op op_fdivW snd_fdiv (dv 1) (de_op op_pow snd_pow de_int de_int)) de_int) da_nil)))))) (dv 1)))) dss_nop) (dss_cons (ds_store (de_op op_addA snd_add (de_ix ix_seq snd_ix (dv 0) de_int (fun _ _ => rfl)) de_int) (dv 0) de_int) (dss_cons (ds_asg (i := 3) nd rfl (by first | exact Or.inl rfl | exact Or.inr rfl) (de_op op_mod snd_mod (de_op op_pow snd_pow (de_op op_addA snd_add (de_ix ix_seq snd_ix (dv 0) de_int (fun _ _ => rfl)) (de_op op_mulAA snd_mul de_int (de_ix ix_seq snd_ix (dv 0) de_int (fun _ _ => rfl)))) de_int) de_int)) (dss_one (ds_ret (de_op op_mod snd_mod (de_op op_fdivW snd_fdiv (de_op op_mod snd_mod (de_op op_addA snd_add (de_op op_mulAA snd_mul (dv 3) (de_op op_addA snd_add (de_op op_mod snd_mod (dv 3) de_int) de_int)) (de_op op_mulAA snd_mul (de_ix ix_seq snd_ix (dv 0) de_int (fun _ _ => rfl)) de_int)) de_int) de_int) (dv 1))))))))
theorem ok_Ltake (T : Tx K mg) (TX : ExT P K mg XS) : Callee P w K mg base 5 "_law_take" P_Ltake [.io, .val] M_Ltake := okR_Ltake T TX 4
theorem okR_Lsame (T : Tx K mg) (TX : ExT P K mg XS) : ∀ n, Callee P w K mg base (1 + n) "_law_same" P_Lsame [.val, .val] (R_Lsame n)
  | 0 => by
    obtain ⟨fd, F⟩ := T.d_Lsame
    exact Callee.zero2 F T.g_Lsame bd_Lsame
  | n + 1 => by
    have C_Lsame := okR_Lsame T TX n
    obtain ⟨fd, F⟩ := T.d_Lsame
    refine Callee.mk2 (k := 1 + n) F T.g_Lsame sc_Lsame bd_Lsame rfl (by decide) fun cdv A outer s H E hr => ?_
    have nd := sc_Lsame.nd
    exact (dss_cons (ds_if (dt_val (de_callB call_isiA snd_isi rfl T.b_isinstance PyProof.Rows.Boot.«isinstance» (da_cons (dv 1) (da_cons (de_tup (df_cons (de_ty rfl T.b_list PyProof.Rows.Boot.«list») (df_cons (de_ty rfl T.b_tuple PyProof.Rows.Boot.«tuple») df_nil))) da_nil)))) (dss_cons (ds_if (DWx.pt (dw_or (dt_cmp (op_neD hr.units) snd_ne (de_callB call_isiA snd_isi rfl T.b_isinstance PyProof.Rows.Boot.«isinstance» (da_cons (dv 0) (da_cons (de_ty rfl T.b_list PyProof.Rows.Boot.«list») da_nil))) (de_callB call_isiA snd_isi rfl T.b_isinstance PyProof.Rows.Boot.«isinstance» (da_cons (dv 1) (da_cons (de_ty rfl T.b_list PyProof.Rows.Boot.«list») da_nil))) (nomark _)) (dw_or1 (dt_cmp (op_neD hr.units) snd_ne (de_callB call_isiA snd_isi rfl T.b_isinstance PyProof.Rows.Boot.«isinstance» (da_cons (dv 0) (da_cons (de_ty rfl T.b_tuple PyProof.Rows.Boot.«tuple») da_nil))) (de_callB call_isiA snd_isi rfl T.b_isinstance PyProof.Rows.Boot.«isinstance» (da_cons (dv 1) (da_cons (de_ty rfl T.b_tuple PyProof.Rows.Boot.«tuple») da_nil))) (nomark _))))) (dss_one (ds_ret de_bl)) dss_nop) (dss_one (ds_ret (de_and (de_cmp (op_eqD hr.units) snd_eq (de_callB call_len snd_len rfl T.b_len PyProof.Rows.Boot.«len» (da_cons (dv 0) da_nil)) (de_callB call_len snd_len rfl T.b_len PyProof.Rows.Boot.«len» (da_cons (dv 1) da_nil)) (nomark _)) (de_one (de_callB (cr_all rfl) snd_all rfl T.b_all PyProof.Rows.Boot.«all» (da_cons (de_lc (own := [("_law_mine", 2), ("_law_its", 3)]) (t := (.many [2, 3])) rfl nd (di_zip rfl T.b_zip (df_cons (dv 0) (df_cons (dv 1) df_nil))) (blkOk_by (own := [("_law_mine", 2), ("_law_its", 3)]) (N := N_Lsame) (sc := defScope s_Lsame) (by decide +kernel)) rfl (fun _ _ _ _ _ => (pg_tup rfl (pgs_cons (pg_name (i := 2) nd rfl (by first | exact Or.inl rfl | exact Or.inr rfl)) (pgs_cons (pg_name (i := 3) nd rfl (by first | exact Or.inl rfl | exact Or.inr rfl)) pgs_nil)))) (fun _ _ _ _ _ => dp_nil) (fun _ _ _ _ _ => (de_fz (de_fn C_Lsame (hr.mono (by omega)) rfl (da_fcons (dv 2) (da_fcons (dv 3) da_nil)))))) da_nil))))))) dss_nop) (dss_cons (ds_if (DWx.pt (dw_or (dt_cmp op_isN snd_isN (dv 1) de_non (nomark _)) (dw_or1 (dt_val (de_callB call_isiA snd_isi rfl T.b_isinstance PyProof.Rows.Boot.«isinstance» (da_cons (dv 1) (da_cons (de_ty rfl T.b_str PyProof.Rows.Boot.«str») da_nil))))))) (dss_one (ds_ret (de_and (de_cmp (op_eqD hr.units) snd_eq (dv 0) (dv 1) (nomark _)) (de_one (de_cmp (op_eqD hr.units) snd_eq (de_callB call_isiA snd_isi rfl T.b_isinstance PyProof.Rows.Boot.«isinstance» (da_cons (dv 0) (da_cons (de_ty rfl T.b_str PyProof.Rows.Boot.«str») da_nil))) (de_callB call_isiA snd_isi rfl T.b_isinstance PyProof.Rows.Boot.«isinstance» (da_cons (dv 1) (da_cons (de_ty rfl T.b_str PyProof.Rows.Boot.«str») da_nil))) (nomark _)))))) dss_nop) (dss_one (ds_ret (de_and (de_callB call_isiA snd_isi rfl T.b_isinstance PyProof.Rows.Boot.«isinstance» (da_cons (dv 0) (da_cons (de_ty rfl T.b_int PyProof.Rows.Boot.«int») da_nil))) (de_and (de_cmp (op_eqD hr.units) snd_eq (de_callB call_isiA snd_isi rfl T.b_isinstance PyProof.Rows.Boot.«isinstance» (da_cons (dv 0) (da_cons (de_ty rfl T.b_bool PyProof.Rows.Boot.«bool») da_nil))) (de_callB call_isiA snd_isi rfl T.b_isinstance PyProof.Rows.Boot.«isinstance» (da_cons (dv 1) (da_cons (de_ty rfl T.b_bool PyProof.Rows.Boot.«bool») da_nil))) (nomark _)) (de_one (de_cmp (op_eqD hr.units) snd_eq (dv 0) (dv 1) (nomark _)))))))))
theorem ok_Lsame (T : Tx K mg) (TX : ExT P K mg XS) : Callee P w K mg base 9 "_law_same" P_Lsame [.val, .val] M_Lsame := okR_Lsame T TX 8
theorem ok_Lflags (T : Tx K mg) (TX : ExT P K mg XS) : Callee P w K mg base 1 "_law_flags" P_Lflags [.val] M_Lflags := by
  obtain ⟨fd, F⟩ := T.d_Lflags
  refine Callee.mk2 (k := 0) F T.g_Lflags sc_Lflags bd_Lflags rfl (by decide) fun cdv A outer s H E hr => ?_
  have nd := sc_Lflags.nd
  exact (dss_cons (ds_fz 1 (ds_asg (i := 1) nd rfl (by first | exact Or.inl rfl | exact Or.inr rfl) (de_lst (df_cons (de_isX TX (by decide) rfl T.b_isinstance (dv 0) (clsE_own TX (by decide) rfl)) (df_cons (de_isX TX (by decide) rfl T.b_isinstance (dv 0) (clsE_own TX (by decide) rfl)) (df_cons (de_isX TX (by decide) rfl T.b_isinstance (dv 0) (clsE_own TX (by decide) rfl)) df_nil)))))) (dss_cons (ds_fz 1 (ds_asg (i := 1) nd rfl (by first | exact Or.inl rfl | exact Or.inr rfl) (de_op op_addA snd_add (dv 1) (de_lst (df_cons (de_isX TX (by decide) rfl T.b_isinstance (dv 0) (clsE_own TX (by decide) rfl)) (df_cons (de_isX TX (by decide) rfl T.b_isinstance (dv 0) (clsE_own TX (by decide) rfl)) (df_cons (de_isX TX (by decide) rfl T.b_isinstance (dv 0) (clsE_own TX (by decide) rfl)) df_nil))))))) (dss_cons (ds_fz 1 (ds_asg (i := 1) nd rfl (by first | exact Or.inl rfl | exact Or.inr rfl) (de_op op_addA snd_add (dv 1) (de_lst (df_cons (de_isX TX (by decide) rfl T.b_isinstance (dv 0) (clsE_own TX (by decide) rfl)) (df_cons (de_isX TX (by decide) rfl T.b_isinstance (dv 0) (clsE_own TX (by decide) rfl)) (df_cons (de_isX TX (by decide) rfl T.b_isinstance (dv 0) (clsE_own TX (by decide) rfl)) df_nil))))))) (dss_cons (ds_fz 1 (ds_asg (i := 1) nd rfl (by first | exact Or.inl rfl | exact Or.inr rfl) (de_op op_addA snd_add (dv 1) (de_lst (df_cons (de_isX TX (by decide) rfl T.b_isinstance (dv 0) (clsE_own TX (by decide) rfl)) (df_cons (de_isX TX (by decide) rfl T.b_isinstance (dv 0) (clsE_own TX (by decide) rfl)) (df_cons (de_isX TX (by decide) rfl T.b_isinstance (dv 0) (clsE_own TX (by decide) rfl)) df_nil))))))) (dss_cons (ds_fz 1 (ds_asg (i := 1) nd rfl (by first | exact Or.inl rfl | exact Or.inr rfl) (de_op op_addA snd_add (dv 1) (de_lst (df_cons (de_isX TX (by decide) rfl T.b_isinstance (dv 0) (clsE_own TX (by decide) rfl)) (df_cons (de_isX TX (by decide) rfl T.b_isinstance (dv 0) (clsE_own TX (by decide) rfl)) (df_cons (de_isX TX (by decide) rfl T.b_isinstance (dv 0) (clsE_own TX (by decide) rfl)) df_nil))))))) (dss_one (ds_ret (de_op op_addA snd_add (dv 1) (de_lst (df_cons (de_isX TX (by decide) rfl T.b_isinstance (dv 0) (clsE_own TX (by decide) rfl)) df_nil))))))))))
theorem ok_Lone_right (T : Tx K mg) (TX : ExT P K mg XS) : Callee P w K mg base 2 "_law_one_right" P_Lone_right [.val, .val] M_Lone_right := by
  have C_Lflags : Callee P w K mg base 1 "_law_flags" P_Lflags [.val] M_Lflags := ok_Lflags T TX
  obtain ⟨fd, F⟩ := T.d_Lone_right
  refine Callee.mk2 (k := 1) F T.g_Lone_right sc_Lone_right bd_Lone_right rfl (by decide) fun cdv A outer s H E hr => ?_
  have nd := sc_Lone_right.nd
  exact (dss_cons (ds_fz 2 (ds_asgLc (own := [("_law_k", 3)]) (t := (.one 3)) (i := 2) rfl nd rfl rfl (sw_true rfl rfl rfl (by decide +kernel)) (di_range1 rfl T.b_range (da_cons de_int da_nil)) (blkOk_by (own := [("_law_k", 3)]) (N := N_Lone_right) (sc := defScope s_Lone_right) (by decide +kernel)) rfl (fun _ _ _ _ _ => (pg_name (i := 3) nd rfl (by first | exact Or.inl rfl | exact Or.inr rfl))) (fun _ _ _ _ _ => dp_nil) (fun _ _ _ _ _ => (de_cmp (op_eqD hr.units) snd_eq (dv 3) (dv 0) (nomark _))))) (dss_cons (ds_asg (i := 4) nd rfl (by first | exact Or.inl rfl | exact Or.inr rfl) (de_if (dt_cmp op_lt snd_lt (dv 0) de_int (nomark _)) de_int (de_if (dt_cmp op_lt snd_lt (dv 0) de_int (nomark _)) de_int (de_if (dt_cmp op_lt snd_lt (dv 0) de_int (nomark _)) de_int de_int)))) (dss_cons (ds_asg (i := 5) nd rfl (by first | exact Or.inl rfl | exact Or.inr rfl) (de_lst (df_cons (de_isX TX (by decide) rfl T.b_isinstance (dv 1) (clsE_base TX (by decide) rfl PyProof.Rows.Boot.«ValueError»)) (df_cons (de_isX TX (by decide) rfl T.b_isinstance (dv 1) (clsE_base TX (by decide) rfl PyProof.Rows.Boot.«LookupError»)) (df_cons (de_isX TX (by decide) rfl T.b_isinstance (dv 1) (clsE_base TX (by decide) rfl PyProof.Rows.Boot.«RuntimeError»)) df_nil))))) (dss_cons (ds_expr (de_mut PySem.F.plainAttrs_list PySem.F.slot_list_append PySem.F.type_list_append mt_append snd_app (dv 5) (df_cons (de_isX TX (by decide) rfl T.b_isinstance (dv 1) (clsE_base TX (by decide) rfl PyProof.Rows.Boot.«OverflowError»)) df_nil))) (dss_cons (ds_asg (i := 6) nd rfl (by first | exact Or.inl rfl | exact Or.inr rfl) (de_isXT TX (by decide) rfl T.b_isinstance (dv 1) (.cons (clsE_base TX (by decide) rfl PyProof.Rows.Boot.«IndexError») rfl (.cons (clsE_base TX (by decide) rfl PyProof.Rows.Boot.«KeyError») rfl (.cons (clsE_base TX (by decide) rfl PyProof.Rows.Boot.«NotImplementedError») rfl .nil))) (by decide))) (dss_one (ds_ret (de_and (de_cmp (op_eqD hr.units) snd_eq (de_fz (de_fn C_Lflags (hr.mono (by omega)) rfl (da_fcons (dv 1) da_nil))) (dv 2) (nomark _)) (de_and (de_cmp (op_eqD hr.units) snd_eq (de_lc (own := [("_law_k", 3)]) (t := (.one 3)) rfl nd (di_range1 rfl T.b_range (da_cons de_int da_nil)) (blkOk_by (own := [("_law_k", 3)]) (N := N_Lone_right) (sc := defScope s_Lone_right) (by decide +kernel)) rfl (fun _ _ _ _ _ => (pg_name (i := 3) nd rfl (by first | exact Or.inl rfl | exact Or.inr rfl))) (fun _ _ _ _ _ => dp_nil) (fun _ _ _ _ _ => (de_cmp (op_eqD hr.units) snd_eq (dv 3) (dv 4) (nomark _)))) (dv 5) (nomark _)) (de_one (de_not (dv 6))))))))))))
theorem ok_Lright (T : Tx K mg) (TX : ExT P K mg XS) : Callee P w K mg base 10 "_law_right" P_Lright_k25 [.io] M_Lright_k25 := by
  have C_Ltake : Callee P w K mg base 5 "_law_take" P_Ltake [.io, .val] M_Ltake := ok_Ltake T TX
  have C_Lone_right : Callee P w K mg base 2 "_law_one_right" P_Lone_right [.val, .val] M_Lone_right := ok_Lone_right T TX
  have C_Lsame : Callee P w K mg base 9 "_law_same" P_Lsame [.val, .val] M_Lsame := ok_Lsame T TX
  obtain ⟨fd, F⟩ := T.d_Lright
  refine Callee.mk2 (k := 9) F T.g_Lright sc_Lright_k25 bd_Lright_k25 rfl (by decide) fun cdv A outer s H E hr => ?_
  have nd := sc_Lright_k25.nd
  exact (dss_cons (ds_fz 3 (by first | exact ds_par3 (i := 1) (j := 2) (l := 3) rfl nd rfl rfl rfl (by decide) (by decide) (by decide) rfl rfl rfl (da_cons (de_op op_sub snd_sub (de_fz (de_fn C_Ltake (hr.mono (by omega)) rfl (da_cons (dv 0) (da_fcons de_int da_nil)))) de_int) (da_cons (de_op op_sub snd_sub (de_fz (de_fn C_Ltake (hr.mono (by omega)) rfl (da_cons (dv 0) (da_fcons (de_op op_pow snd_pow de_int de_int) da_nil)))) de_int) (da_cons (de_op op_addA snd_add (de_op op_addA snd_add de_str (de_callTy call_str_int snd_str rfl T.b_str PyProof.Rows.Boot.«str» (da_cons (de_fz (de_fn C_Ltake (hr.mono (by omega)) rfl (da_cons (dv 0) (da_fcons de_int da_nil)))) da_nil))) de_str) da_nil))) rfl | exact ds_tupAsg (is := [1, 2, 3]) (pg_tup rfl (pgs_cons (pg_name (i := 1) nd rfl (by first | exact Or.inl rfl | exact Or.inr rfl)) (pgs_cons (pg_name (i := 2) nd rfl (by first | exact Or.inl rfl | exact Or.inr rfl)) (pgs_cons (pg_name (i := 3) nd rfl (by first | exact Or.inl rfl | exact Or.inr rfl)) pgs_nil)))) (by decide) (da_cons (de_op op_sub snd_sub (de_fz (de_fn C_Ltake (hr.mono (by omega)) rfl (da_cons (dv 0) (da_fcons de_int da_nil)))) de_int) (da_cons (de_op op_sub snd_sub (de_fz (de_fn C_Ltake (hr.mono (by omega)) rfl (da_cons (dv 0) (da_fcons (de_op op_pow snd_pow de_int de_int) da_nil)))) de_int) (da_cons (de_op op_addA snd_add (de_op op_addA snd_add de_str (de_callTy call_str_int snd_str rfl T.b_str PyProof.Rows.Boot.«str» (da_cons (de_fz (de_fn C_Ltake (hr.mono (by omega)) rfl (da_cons (dv 0) (da_fcons de_int da_nil)))) da_nil))) de_str) da_nil))))) (dss_cons (ds_fz 4 (ds_asg (i := 4) nd rfl (by first | exact Or.inl rfl | exact Or.inr rfl) (de_lst (df_cons (de_mkX (k := 0) (mk_Duplicate TX) (hr.mono (by omega)) rfl (TX.g _ (by decide)) (dv 2)) (df_cons (de_mkXK (k := 0) (mk_NotFull TX) (hr.mono (by omega)) rfl (TX.g _ (by decide)) (dv 1)) (df_cons (de_mkX0 (k := 0) (mk_OtherNesting TX) (hr.mono (by omega)) rfl (TX.g _ (by decide))) (df_cons (de_mkX (k := 0) (mk_BadText TX) (hr.mono (by omega)) rfl (TX.g _ (by decide)) (dv 3)) (df_cons (de_mkXK (k := 0) (mk_BadLine TX) (hr.mono (by omega)) rfl (TX.g _ (by decide)) (dv 1)) df_nil)))))))) (dss_cons (ds_fz 4 (ds_asg (i := 4) nd rfl (by first | exact Or.inl rfl | exact Or.inr rfl) (de_op op_addA snd_add (dv 4) (de_lst (df_cons (de_mkX (k := 0) (mk_NoBox TX) (hr.mono (by omega)) rfl (TX.g _ (by decide)) (dv 1)) (df_cons (de_mkXK (k := 0) (mk_NoGap TX) (hr.mono (by omega)) rfl (TX.g _ (by decide)) (dv 1)) (df_cons (de_mkX (k := 0) (mk_NoIndex TX) (hr.mono (by omega)) rfl (TX.g _ (by decide)) (dv 1)) (df_cons (de_mkXK (k := 0) (mk_NoNumber TX) (hr.mono (by omega)) rfl (TX.g _ (by decide)) (dv 2)) (df_cons (de_mkX (k := 0) (mk_NoState TX) (hr.mono (by omega)) rfl (TX.g _ (by decide)) (dv 2)) df_nil))))))))) (dss_cons (ds_fz 4 (ds_asg (i := 4) nd rfl (by first | exact Or.inl rfl | exact Or.inr rfl) (de_op op_addA snd_add (dv 4) (de_lst (df_cons (de_mkX (k := 0) (mk_Closed TX) (hr.mono (by omega)) rfl (TX.g _ (by decide)) (dv 1)) (df_cons (de_mkXK (k := 0) (mk_Outer TX) (hr.mono (by omega)) rfl (TX.g _ (by decide)) (dv 1)) (df_cons (de_mkX (k := 0) (mk_Stuck TX) (hr.mono (by omega)) rfl (TX.g _ (by decide)) (dv 1)) (df_cons (de_mkXK (k := 0) (mk_Blocked TX) (hr.mono (by omega)) rfl (TX.g _ (by decide)) (dv 1)) df_nil)))))))) (dss_cons (ds_fz 4 (ds_asg (i := 4) nd rfl (by first | exact Or.inl rfl | exact Or.inr rfl) (de_op op_addA snd_add (dv 4) (de_lst (df_cons (de_mkX (k := 0) (mk_TooMany TX) (hr.mono (by omega)) rfl (TX.g _ (by decide)) (dv 2)) (df_cons (de_mkXK (k := 0) (mk_Full TX) (hr.mono (by omega)) rfl (TX.g _ (by decide)) de_int) df_nil)))))) (dss_cons (ds_fz 5 (ds_asg (i := 5) nd rfl (by first | exact Or.inl rfl | exact Or.inr rfl) (de_lst (df_cons (de_mkXK (k := 0) (mk_Duplicate TX) (hr.mono (by omega)) rfl (TX.g _ (by decide)) (dv 2)) (df_cons (de_mkX (k := 0) (mk_NotFull TX) (hr.mono (by omega)) rfl (TX.g _ (by decide)) (dv 1)) (df_cons (de_mkX0 (k := 0) (mk_OtherNesting TX) (hr.mono (by omega)) rfl (TX.g _ (by decide))) (df_cons (de_mkXK (k := 0) (mk_BadText TX) (hr.mono (by omega)) rfl (TX.g _ (by decide)) (dv 3)) (df_cons (de_mkX (k := 0) (mk_BadLine TX) (hr.mono (by omega)) rfl (TX.g _ (by decide)) (dv 1)) df_nil)))))))) (dss_cons (ds_fz 5 (ds_asg (i := 5) nd rfl (by first | exact Or.inl rfl | exact Or.inr rfl) (de_op op_addA snd_add (dv 5) (de_lst (df_cons (de_mkXK (k := 0) (mk_NoBox TX) (hr.mono (by omega)) rfl (TX.g _ (by decide)) (dv 1)) (df_cons (de_mkX (k := 0) (mk_NoGap TX) (hr.mono (by omega)) rfl (TX.g _ (by decide)) (dv 1)) (df_cons (de_mkXK (k := 0) (mk_NoIndex TX) (hr.mono (by omega)) rfl (TX.g _ (by decide)) (dv 1)) (df_cons (de_mkX (k := 0) (mk_NoNumber TX) (hr.mono (by omega)) rfl (TX.g _ (by decide)) (dv 2)) df_nil)))))))) (dss_cons (ds_fz 5 (ds_asg (i := 5) nd rfl (by first | exact Or.inl rfl | exact Or.inr rfl) (de_op op_addA snd_add (dv 5) (de_lst (df_cons (de_mkXK (k := 0) (mk_NoState TX) (hr.mono (by omega)) rfl (TX.g _ (by decide)) (dv 2)) df_nil))))) (dss_cons (ds_fz 5 (ds_asg (i := 5) nd rfl (by first | exact Or.inl rfl | exact Or.inr rfl) (de_op op_addA snd_add (dv 5) (de_lst (df_cons (de_mkXK (k := 0) (mk_Closed TX) (hr.mono (by omega)) rfl (TX.g _ (by decide)) (dv 1)) (df_cons (de_mkX (k := 0) (mk_Outer TX) (hr.mono (by omega)) rfl (TX.g _ (by decide)) (dv 1)) (df_cons (de_mkXK (k := 0) (mk_Stuck TX) (hr.mono (by omega)) rfl (TX.g _ (by decide)) (dv 1)) (df_cons (de_mkX (k := 0) (mk_Blocked TX) (hr.mono (by omega)) rfl (TX.g _ (by decide)) (dv 1)) df_nil)))))))) (dss_cons (ds_fz 5 (ds_asg (i := 5) nd rfl (by first | exact Or.inl rfl | exact Or.inr rfl) (de_op op_addA snd_add (dv 5) (de_lst (df_cons (de_mkXK (k := 0) (mk_TooMany TX) (hr.mono (by omega)) rfl (TX.g _ (by decide)) (dv 2)) (df_cons (de_mkX (k := 0) (mk_Full TX) (hr.mono (by omega)) rfl (TX.g _ (by decide)) de_int) df_nil)))))) (dss_cons (ds_kb [6, 7, 8] (ds_for (t := (.one 6)) PassesOwn.never rfl (di_seq (de_tup (df_cons (dv 4) (df_cons (dv 5) df_nil)))) (pg_name (i := 6) nd rfl (by first | exact Or.inl rfl | exact Or.inr rfl)) (dss_ka [6, 7, 8] (dss_cons (ds_if (dt_not (dt_val (de_callB (cr_all rfl) snd_all rfl T.b_all PyProof.Rows.Boot.«all» (da_cons (de_lc (own := [("_law_at", 9), ("_law_caught", 10)]) (t := (.many [9, 10])) rfl nd (di_enum rfl T.b_enumerate (dv 6)) (blkOk_by (own := [("_law_at", 9), ("_law_caught", 10)]) (N := N_Lright_k25) (sc := defScope s_Lright_k25) (by decide +kernel)) rfl (fun _ _ _ _ _ => (pg_tup rfl (pgs_cons (pg_name (i := 9) nd rfl (by first | exact Or.inl rfl | exact Or.inr rfl)) (pgs_cons (pg_name (i := 10) nd rfl (by first | exact Or.inl rfl | exact Or.inr rfl)) pgs_nil)))) (fun _ _ _ _ _ => dp_nil) (fun _ _ _ _ _ => (de_fz (de_fn C_Lone_right (hr.mono (by omega)) rfl (da_fcons (dv 9) (da_fcons (dv 10) da_nil)))))) da_nil)))) (dss_one (ds_ret de_bl)) dss_nop) (dss_cons (ds_fz 7 (ds_asg (i := 7) nd rfl (by first | exact Or.inl rfl | exact Or.inr rfl) (de_lst (df_cons (de_xf TX (by decide) (de_ix ix_seq snd_ix (dv 6) de_int (fun _ _ => rfl))) (df_cons (de_xf TX (by decide) (de_ix ix_seq snd_ix (dv 6) de_int (fun _ _ => rfl))) (df_cons (de_xf TX (by decide) (de_ix ix_seq snd_ix (dv 6) de_int (fun _ _ => rfl))) (df_cons (de_xf TX (by decide) (de_ix ix_seq snd_ix (dv 6) de_int (fun _ _ => rfl))) (df_cons (de_xf TX (by decide) (de_ix ix_seq snd_ix (dv 6) de_int (fun _ _ => rfl))) (df_cons (de_xf TX (by decide) (de_ix ix_seq snd_ix (dv 6) de_int (fun _ _ => rfl))) (df_cons (de_xf TX (by decide) (de_ix ix_seq snd_ix (dv 6) de_int (fun _ _ => rfl))) df_nil)))))))))) (dss_cons (ds_fz 7 (ds_asg (i := 7) nd rfl (by first | exact Or.inl rfl | exact Or.inr rfl) (de_op op_addA snd_add (dv 7) (de_lst (df_cons (de_xf TX (by decide) (de_ix ix_seq snd_ix (dv 6) de_int (fun _ _ => rfl))) (df_cons (de_xf TX (by decide) (de_ix ix_seq snd_ix (dv 6) de_int (fun _ _ => rfl))) (df_cons (de_xf TX (by decide) (de_ix ix_seq snd_ix (dv 6) de_int (fun _ _ => rfl))) (df_cons (de_xf TX (by decide) (de_ix ix_seq snd_ix (dv 6) de_int (fun _ _ => rfl))) (df_cons (de_xf TX (by decide) (de_ix ix_seq snd_ix (dv 6) de_int (fun _ _ => rfl))) (df_cons (de_xf TX (by decide) (de_ix ix_seq snd_ix (dv 6) de_int (fun _ _ => rfl))) df_nil)))))))))) (dss_cons (ds_fz 8 (ds_asg (i := 8) nd rfl (by first | exact Or.inl rfl | exact Or.inr rfl) (de_lst (df_cons (dv 2) (df_cons (dv 1) (df_cons (dv 3) (df_cons (dv 1) (df_cons (dv 1) (df_cons (dv 1) (df_cons (dv 1) (df_cons (dv 2) (df_cons (dv 2) (df_cons (dv 1) df_nil))))))))))))) (dss_cons (ds_fz 8 (ds_asg (i := 8) nd rfl (by first | exact Or.inl rfl | exact Or.inr rfl) (de_op op_addA snd_add (dv 8) (de_lst (df_cons (dv 1) (df_cons (dv 1) (df_cons (dv 1) df_nil))))))) (dss_one (ds_if (dt_not (dt_val (de_fz (de_fn C_Lsame (hr.mono (by omega)) rfl (da_fcons (de_op op_addA snd_add (dv 7) (de_lst (df_cons (de_xf TX (by decide) (de_ix ix_seq snd_ix (dv 6) de_int (fun _ _ => rfl))) (df_cons (de_xf TX (by decide) (de_ix ix_seq snd_ix (dv 6) de_int (fun _ _ => rfl))) df_nil)))) (da_fcons (de_op op_addA snd_add (dv 8) (de_lst (df_cons (dv 2) (df_cons de_int df_nil)))) da_nil)))))) (dss_one (ds_ret de_bl)) dss_nop)))))))))) (dss_one (ds_ret de_bl)))))))))))))
theorem ok_law (T : Tx K mg) (TX : ExT P K mg XS) : Callee P w K mg base 11 "law" P_law_k25 [.val] M_law_k25 := by
  have C_Lbox : Callee P w K mg base 1 "_law_box" P_Lbox [.val, .val] M_Lbox := ok_Lbox T TX
  have C_Lright : Callee P w K mg base 10 "_law_right" P_Lright_k25 [.io] M_Lright_k25 := ok_Lright T TX
  obtain ⟨fd, F⟩ := T.d_law
  refine Callee.mk2 (k := 10) F T.g_law sc_law_k25 bd_law_k25 rfl (by decide) fun cdv A outer s H E hr => ?_
  have nd := sc_law_k25.nd
  exact (dss_cons (ds_kb [1, 2] (ds_for (t := (.one 1)) PassesOwn.never rfl (di_range1 rfl T.b_range (da_cons (de_op op_addA snd_add de_int (de_callB (call_min2 rfl) snd_min2 rfl T.b_min PyProof.Rows.Boot.«min» (da_cons de_int (da_cons (de_callB call_len snd_len rfl T.b_len PyProof.Rows.Boot.«len» (da_cons (dv 0) da_nil)) da_nil)))) da_nil)) (pg_name (i := 1) nd rfl (by first | exact Or.inl rfl | exact Or.inr rfl)) (dss_ka [1, 2] (dss_cons (ds_asg (i := 2) nd rfl (by first | exact Or.inl rfl | exact Or.inr rfl) (de_fn C_Lbox (hr.mono (by omega)) rfl (da_fcons (dv 0) (da_fcons (dv 1) da_nil)))) (dss_one (ds_if (dt_not (dt_val (de_callB (cr_all rfl) snd_all rfl T.b_all PyProof.Rows.Boot.«all» (da_cons (de_lc (own := [("_law_turn", 3)]) (t := (.one 3)) rfl nd (di_range1 rfl T.b_range (da_cons de_int da_nil)) (blkOk_by (own := [("_law_turn", 3)]) (N := N_law_k25) (sc := defScope s_law_k25) (by decide +kernel)) rfl (fun _ _ _ _ _ => (pg_name (i := 3) nd rfl (by first | exact Or.inl rfl | exact Or.inr rfl))) (fun _ _ _ _ _ => dp_nil) (fun _ _ _ _ _ => (de_fz (de_fn C_Lright (hr.mono (by omega)) rfl (da_cons (dv 2) da_nil))))) da_nil)))) (dss_one (ds_ret de_bl)) dss_nop)))))) (dss_one (ds_ret de_bl)))
end K25
end
section
set_option Elab.async false
set_option linter.all false
set_option maxRecDepth 100000
set_option maxHeartbeats 0
namespace K25
open PySem PySem.Spec PyProof.Rows L2 DV PI
def q_Lbox : He.DefD := ⟨("_law_box", none), "_law_box", "_law_box", defArgs s_Lbox, defBody s_Lbox, defScope s_Lbox, [], []⟩
def q_Ltake : He.DefD := ⟨("_law_take", none), "_law_take", "_law_take", defArgs s_Ltake, defBody s_Ltake, defScope s_Ltake, [], []⟩
def q_Lsame : He.DefD := ⟨("_law_same", none), "_law_same", "_law_same", defArgs s_Lsame, defBody s_Lsame, defScope s_Lsame, [], []⟩
def q_Lflags : He.DefD := ⟨("_law_flags", none), "_law_flags", "_law_flags", defArgs s_Lflags, defBody s_Lflags, defScope s_Lflags, [], []⟩
def q_Lone_right : He.DefD := ⟨("_law_one_right", none), "_law_one_right", "_law_one_right", defArgs s_Lone_right, defBody s_Lone_right, defScope s_Lone_right, [], []⟩
def q_Lright : He.DefD := ⟨("_law_right", none), "_law_right", "_law_right", defArgs s_Lright_k25, defBody s_Lright_k25, defScope s_Lright_k25, [], []⟩
def q_law : He.DefD := ⟨("law", none), "law", "law", defArgs s_law_k25, defBody s_law_k25, defScope s_law_k25, [], []⟩
def fn : List He.DefD := [q_Lbox, q_Ltake, q_Lsame, q_Lflags, q_Lone_right, q_Lright, q_law]
def fa : List He.Fa := [.glo "_law_box", .glo "_law_take", .glo "_law_same", .glo "_law_flags", .glo "_law_one_right", .glo "_law_right", .glo "law", .free "IndexError", .free "KeyError", .free "LookupError", .free "NotImplementedError", .free "OverflowError", .free "RuntimeError", .free "ValueError", .free "abs", .free "all", .free "bool", .free "enumerate", .free "int", .free "isinstance", .free "len", .free "list", .free "min", .free "range", .free "str", .free "super", .free "tuple", .free "zip", .glo "OtherNesting", .glo "Duplicate", .glo "NotFull", .glo "BadText", .glo "BadLine", .glo "NoBox", .glo "NoGap", .glo "NoIndex", .glo "NoNumber", .glo "NoState", .glo "Closed", .glo "Outer", .glo "Stuck", .glo "Blocked", .glo "TooMany", .glo "Full"]
def clsB (s : Stmt) : List Stmt := match s with
  | .ClassDef _ _ _ b _ _ _ _ _ _ _ => b
  | _ => []
def ini (i : Nat) : Stmt := (clsB (top i)).getD 0 (.Pass ⟨0, 0, 0, 0⟩)
def x_OtherNesting : DVX.XD := ⟨"OtherNesting", .v, "index", "OtherNesting.__init__", defArgs (ini 3), defBody (ini 3), defScope (ini 3)⟩
def x_Duplicate : DVX.XD := ⟨"Duplicate", .v, "size", "Duplicate.__init__", defArgs (ini 1), defBody (ini 1), defScope (ini 1)⟩
def x_NotFull : DVX.XD := ⟨"NotFull", .v, "many", "NotFull.__init__", defArgs (ini 2), defBody (ini 2), defScope (ini 2)⟩
def x_BadText : DVX.XD := ⟨"BadText", .v, "text", "BadText.__init__", defArgs (ini 4), defBody (ini 4), defScope (ini 4)⟩
def x_BadLine : DVX.XD := ⟨"BadLine", .v, "number", "BadLine.__init__", defArgs (ini 5), defBody (ini 5), defScope (ini 5)⟩
def x_NoBox : DVX.XD := ⟨"NoBox", .l, "place", "NoBox.__init__", defArgs (ini 6), defBody (ini 6), defScope (ini 6)⟩
def x_NoGap : DVX.XD := ⟨"NoGap", .l, "gap", "NoGap.__init__", defArgs (ini 7), defBody (ini 7), defScope (ini 7)⟩
def x_NoIndex : DVX.XD := ⟨"NoIndex", .l, "index", "NoIndex.__init__", defArgs (ini 8), defBody (ini 8), defScope (ini 8)⟩
def x_NoNumber : DVX.XD := ⟨"NoNumber", .l, "number", "NoNumber.__init__", defArgs (ini 9), defBody (ini 9), defScope (ini 9)⟩
def x_NoState : DVX.XD := ⟨"NoState", .l, "many", "NoState.__init__", defArgs (ini 10), defBody (ini 10), defScope (ini 10)⟩
def x_Closed : DVX.XD := ⟨"Closed", .r, "gap", "Closed.__init__", defArgs (ini 11), defBody (ini 11), defScope (ini 11)⟩
def x_Outer : DVX.XD := ⟨"Outer", .r, "place", "Outer.__init__", defArgs (ini 12), defBody (ini 12), defScope (ini 12)⟩
def x_Stuck : DVX.XD := ⟨"Stuck", .r, "place", "Stuck.__init__", defArgs (ini 13), defBody (ini 13), defScope (ini 13)⟩
def x_Blocked : DVX.XD := ⟨"Blocked", .r, "index", "Blocked.__init__", defArgs (ini 14), defBody (ini 14), defScope (ini 14)⟩
def x_TooMany : DVX.XD := ⟨"TooMany", .o, "many", "TooMany.__init__", defArgs (ini 15), defBody (ini 15), defScope (ini 15)⟩
def x_Full : DVX.XD := ⟨"Full", .o, "many", "Full.__init__", defArgs (ini 16), defBody (ini 16), defScope (ini 16)⟩
def xs : List DVX.XD := [x_OtherNesting, x_Duplicate, x_NotFull, x_BadText, x_BadLine, x_NoBox, x_NoGap, x_NoIndex, x_NoNumber, x_NoState, x_Closed, x_Outer, x_Stuck, x_Blocked, x_TooMany, x_Full]
def file : Str := (PySem.Challenge.rw_putinside_k25_error_classes).prog.main.file
theorem txt : ∀ d ∈ xs, d.name ≠ "OtherNesting" → DVX.XD.txt (PySem.Challenge.rw_putinside_k25_error_classes).prog file d := by
  unfold xs
  simp only [List.forall_mem_cons, List.not_mem_nil, false_implies, implies_true, and_true]
  refine ⟨?_, ?_, ?_, ?_, ?_, ?_, ?_, ?_, ?_, ?_, ?_, ?_, ?_, ?_, ?_, ?_⟩
  · exact fun n => absurd rfl n
  · intro _
    refine ⟨_, _, _, _, _, _, _, _, _, _, _, _, _, rfl, rfl, rfl, by decide +kernel, by decide +kernel, by decide +kernel, by decide +kernel, by decide +kernel, by decide +kernel, by decide +kernel, by decide +kernel, by decide +kernel, by decide +kernel, by decide +kernel, by decide +kernel, ?_, ?_, ?_, ?_⟩
    · exact fun _ _ _ _ => ⟨_, rfl⟩
    · exact fun _ _ _ _ => rfl
    · exact fun _ _ _ _ _ _ _ _ _ => rfl
    · exact fun _ _ _ _ _ _ _ _ _ => rfl
  · intro _
    refine ⟨_, _, _, _, _, _, _, _, _, _, _, _, _, rfl, rfl, rfl, by decide +kernel, by decide +kernel, by decide +kernel, by decide +kernel, by decide +kernel, by decide +kernel, by decide +kernel, by decide +kernel, by decide +kernel, by decide +kernel, by decide +kernel, by decide +kernel, ?_, ?_, ?_, ?_⟩
    · exact fun _ _ _ _ => ⟨_, rfl⟩
    · exact fun _ _ _ _ => rfl
    · exact fun _ _ _ _ _ _ _ _ _ => rfl
    · exact fun _ _ _ _ _ _ _ _ _ => rfl
  · intro _
    refine ⟨_, _, _, _, _, _, _, _, _, _, _, _, _, rfl, rfl, rfl, by decide +kernel, by decide +kernel, by decide +kernel, by decide +kernel, by decide +kernel, by decide +kernel, by decide +kernel, by decide +kernel, by decide +kernel, by decide +kernel, by decide +kernel, by decide +kernel, ?_, ?_, ?_, ?_⟩
    · exact fun _ _ _ _ => ⟨_, rfl⟩
    · exact fun _ _ _ _ => rfl
    · exact fun _ _ _ _ _ _ _ _ _ => rfl
    · exact fun _ _ _ _ _ _ _ _ _ => rfl
  · intro _
    refine ⟨_, _, _, _, _, _, _, _, _, _, _, _, _, rfl, rfl, rfl, by decide +kernel, by decide +kernel, by decide +kernel, by decide +kernel, by decide +kernel, by decide +kernel, by decide +kernel, by decide +kernel, by decide +kernel, by decide +kernel, by decide +kernel, by decide +kernel, ?_, ?_, ?_, ?_⟩
    · exact fun _ _ _ _ => ⟨_, rfl⟩
    · exact fun _ _ _ _ => rfl
    · exact fun _ _ _ _ _ _ _ _ _ => rfl
    · exact fun _ _ _ _ _ _ _ _ _ => rfl
  · intro _
    refine ⟨_, _, _, _, _, _, _, _, _, _, _, _, _, rfl, rfl, rfl, by decide +kernel, by decide +kernel, by decide +kernel, by decide +kernel, by decide +kernel, by decide +kernel, by decide +kernel, by decide +kernel, by decide +kernel, by decide +kernel, by decide +kernel, by decide +kernel, ?_, ?_, ?_, ?_⟩
    · exact fun _ _ _ _ => ⟨_, rfl⟩
    · exact fun _ _ _ _ => rfl
    · exact fun _ _ _ _ _ _ _ _ _ => rfl
    · exact fun _ _ _ _ _ _ _ _ _ => rfl
  · intro _
    refine ⟨_, _, _, _, _, _, _, _, _, _, _, _, _, rfl, rfl, rfl, by decide +kernel, by decide +kernel, by decide +kernel, by decide +kernel, by decide +kernel, by decide +kernel, by decide +kernel, by decide +kernel, by decide +kernel, by decide +kernel, by decide +kernel, by decide +kernel, ?_, ?_, ?_, ?_⟩
    · exact fun _ _ _ _ => ⟨_, rfl⟩
    · exact fun _ _ _ _ => rfl
    · exact fun _ _ _ _ _ _ _ _ _ => rfl
    · exact fun _ _ _ _ _ _ _ _ _ => rfl
  · intro _
    refine ⟨_, _, _, _, _, _, _, _, _, _, _, _, _, rfl, rfl, rfl, by decide +kernel, by decide +kernel, by decide +kernel, by decide +kernel, by decide +kernel, by decide +kernel, by decide +kernel, by decide +kernel, by decide +kernel, by decide +kernel, by decide +kernel, by decide +kernel, ?_, ?_, ?_, ?_⟩
    · exact fun _ _ _ _ => ⟨_, rfl⟩
    · exact fun _ _ _ _ => rfl
    · exact fun _ _ _ _ _ _ _ _ _ => rfl
    · exact fun _ _ _ _ _ _ _ _ _ => rfl
  · intro _
    refine ⟨_, _, _, _, _, _, _, _, _, _, _, _, _, rfl, rfl, rfl, by decide +kernel, by decide +kernel, by decide +kernel, by decide +kernel, by decide +kernel, by decide +kernel, by decide +kernel, by decide +kernel, by decide +kernel, by decide +kernel, by decide +kernel, by decide +kernel, ?_, ?_, ?_, ?_⟩
    · exact fun _ _ _ _ => ⟨_, rfl⟩
    · exact fun _ _ _ _ => rfl
    · exact fun _ _ _ _ _ _ _ _ _ => rfl
    · exact fun _ _ _ _ _ _ _ _ _ => rfl
  · intro _
    refine ⟨_, _, _, _, _, _, _, _, _, _, _, _, _, rfl, rfl, rfl, by decide +kernel, by decide +kernel, by decide +kernel, by decide +kernel, by decide +kernel, by decide +kernel, by decide +kernel, by decide +kernel, by decide +kernel, by decide +kernel, by decide +kernel, by decide +kernel, ?_, ?_, ?_, ?_⟩
    · exact fun _ _ _ _ => ⟨_, rfl⟩
    · exact fun _ _ _ _ => rfl
    · exact fun _ _ _ _ _ _ _ _ _ => rfl
    · exact fun _ _ _ _ _ _ _ _ _ => rfl
  · intro _
    refine ⟨_, _, _, _, _, _, _, _, _, _, _, _, _, rfl, rfl, rfl, by decide +kernel, by decide +kernel, by decide +kernel, by decide +kernel, by decide +kernel, by decide +kernel, by decide +kernel, by decide +kernel, by decide +kernel, by decide +kernel, by decide +kernel, by decide +kernel, ?_, ?_, ?_, ?_⟩
    · exact fun _ _ _ _ => ⟨_, rfl⟩
    · exact fun _ _ _ _ => rfl
    · exact fun _ _ _ _ _ _ _ _ _ => rfl
    · exact fun _ _ _ _ _ _ _ _ _ => rfl
  · intro _
    refine ⟨_, _, _, _, _, _, _, _, _, _, _, _, _, rfl, rfl, rfl, by decide +kernel, by decide +kernel, by decide +kernel, by decide +kernel, by decide +kernel, by decide +kernel, by decide +kernel, by decide +kernel, by decide +kernel, by decide +kernel, by decide +kernel, by decide +kernel, ?_, ?_, ?_, ?_⟩
    · exact fun _ _ _ _ => ⟨_, rfl⟩
    · exact fun _ _ _ _ => rfl
    · exact fun _ _ _ _ _ _ _ _ _ => rfl
    · exact fun _ _ _ _ _ _ _ _ _ => rfl
  · intro _
    refine ⟨_, _, _, _, _, _, _, _, _, _, _, _, _, rfl, rfl, rfl, by decide +kernel, by decide +kernel, by decide +kernel, by decide +kernel, by decide +kernel, by decide +kernel, by decide +kernel, by decide +kernel, by decide +kernel, by decide +kernel, by decide +kernel, by decide +kernel, ?_, ?_, ?_, ?_⟩
    · exact fun _ _ _ _ => ⟨_, rfl⟩
    · exact fun _ _ _ _ => rfl
    · exact fun _ _ _ _ _ _ _ _ _ => rfl
    · exact fun _ _ _ _ _ _ _ _ _ => rfl
  · intro _
    refine ⟨_, _, _, _, _, _, _, _, _, _, _, _, _, rfl, rfl, rfl, by decide +kernel, by decide +kernel, by decide +kernel, by decide +kernel, by decide +kernel, by decide +kernel, by decide +kernel, by decide +kernel, by decide +kernel, by decide +kernel, by decide +kernel, by decide +kernel, ?_, ?_, ?_, ?_⟩
    · exact fun _ _ _ _ => ⟨_, rfl⟩
    · exact fun _ _ _ _ => rfl
    · exact fun _ _ _ _ _ _ _ _ _ => rfl
    · exact fun _ _ _ _ _ _ _ _ _ => rfl
  · intro _
    refine ⟨_, _, _, _, _, _, _, _, _, _, _, _, _, rfl, rfl, rfl, by decide +kernel, by decide +kernel, by decide +kernel, by decide +kernel, by decide +kernel, by decide +kernel, by decide +kernel, by decide +kernel, by decide +kernel, by decide +kernel, by decide +kernel, by decide +kernel, ?_, ?_, ?_, ?_⟩
    · exact fun _ _ _ _ => ⟨_, rfl⟩
    · exact fun _ _ _ _ => rfl
    · exact fun _ _ _ _ _ _ _ _ _ => rfl
    · exact fun _ _ _ _ _ _ _ _ _ => rfl
  · intro _
    refine ⟨_, _, _, _, _, _, _, _, _, _, _, _, _, rfl, rfl, rfl, by decide +kernel, by decide +kernel, by decide +kernel, by decide +kernel, by decide +kernel, by decide +kernel, by decide +kernel, by decide +kernel, by decide +kernel, by decide +kernel, by decide +kernel, by decide +kernel, ?_, ?_, ?_, ?_⟩
    · exact fun _ _ _ _ => ⟨_, rfl⟩
    · exact fun _ _ _ _ => rfl
    · exact fun _ _ _ _ _ _ _ _ _ => rfl
    · exact fun _ _ _ _ _ _ _ _ _ => rfl
theorem txt0 : ∀ d ∈ xs, d.name = "OtherNesting" → DVX.XD.txt0 (PySem.Challenge.rw_putinside_k25_error_classes).prog file d := by
  unfold xs
  simp only [List.forall_mem_cons, List.not_mem_nil, false_implies, implies_true, and_true]
  refine ⟨?_, ?_, ?_, ?_, ?_, ?_, ?_, ?_, ?_, ?_, ?_, ?_, ?_, ?_, ?_, ?_⟩
  · intro _
    refine ⟨_, _, _, _, _, _, _, _, _, rfl, rfl, rfl, by decide +kernel, by decide +kernel, by decide +kernel, by decide +kernel, by decide +kernel, by decide +kernel, by decide +kernel, by decide +kernel, by decide +kernel, ?_, ?_⟩
    · exact fun _ _ _ _ => ⟨_, rfl⟩
    · exact fun _ _ _ _ _ _ _ _ => rfl
  · exact fun n => absurd n (by decide)
  · exact fun n => absurd n (by decide)
  · exact fun n => absurd n (by decide)
  · exact fun n => absurd n (by decide)
  · exact fun n => absurd n (by decide)
  · exact fun n => absurd n (by decide)
  · exact fun n => absurd n (by decide)
  · exact fun n => absurd n (by decide)
  · exact fun n => absurd n (by decide)
  · exact fun n => absurd n (by decide)
  · exact fun n => absurd n (by decide)
  · exact fun n => absurd n (by decide)
  · exact fun n => absurd n (by decide)
  · exact fun n => absurd n (by decide)
  · exact fun n => absurd n (by decide)
abbrev lawR : PySem.W.OpenRow := PySem.W.OpenLaw.row PySem.Challenge.rw_putinside_k25_error_classes
abbrev hk : PySem.W.Hook := DVX.hookX 4 fa fn file xs
def ob (s : PySem.W.SharedT) : DVX.AlX := DVX.obsXG 4 fa fn file xs (HandSHeadRun.getT s)
theorem ob_eq (s : PySem.W.SharedT) : ob s = hk.obs s.abs := DVX.obsXG_eq (HandSHeadRun.getT_eq s)
def loose : List PySem.Str := [("Duplicate" : PySem.Str), ("NotFull" : PySem.Str), ("OtherNesting" : PySem.Str), ("BadText" : PySem.Str), ("BadLine" : PySem.Str), ("NoBox" : PySem.Str), ("NoGap" : PySem.Str), ("NoIndex" : PySem.Str), ("NoNumber" : PySem.Str), ("NoState" : PySem.Str), ("Closed" : PySem.Str), ("Outer" : PySem.Str), ("Stuck" : PySem.Str), ("Blocked" : PySem.Str), ("TooMany" : PySem.Str), ("Full" : PySem.Str), ("_law_box" : PySem.Str), ("_law_take" : PySem.Str), ("_law_same" : PySem.Str), ("_law_flags" : PySem.Str), ("_law_one_right" : PySem.Str), ("_law_right" : PySem.Str)]
theorem run (w : World) : HandSHeadRun.RunEq lawR (PySem.W.view lawR.prog [24]) hk ob 9000 loose w := by
  intro os
  kernel_rfl
theorem tx {K : PySem.W.Frag} {h : Heap} {mg : Str → Option Value} (X : K.In h) (G : h.Ns mainGlobals mg) (c : He.SaysD fa fn K) : Tx K mg :=
  ⟨He.free_ok X G (c.fact 7 (f := .free "IndexError") rfl), He.free_ok X G (c.fact 8 (f := .free "KeyError") rfl), He.free_ok X G (c.fact 9 (f := .free "LookupError") rfl), He.free_ok X G (c.fact 10 (f := .free "NotImplementedError") rfl), He.free_ok X G (c.fact 11 (f := .free "OverflowError") rfl), He.free_ok X G (c.fact 12 (f := .free "RuntimeError") rfl), He.free_ok X G (c.fact 13 (f := .free "ValueError") rfl), He.free_ok X G (c.fact 14 (f := .free "abs") rfl), He.free_ok X G (c.fact 15 (f := .free "all") rfl), He.free_ok X G (c.fact 16 (f := .free "bool") rfl), He.free_ok X G (c.fact 17 (f := .free "enumerate") rfl), He.free_ok X G (c.fact 18 (f := .free "int") rfl), He.free_ok X G (c.fact 19 (f := .free "isinstance") rfl), He.free_ok X G (c.fact 20 (f := .free "len") rfl), He.free_ok X G (c.fact 21 (f := .free "list") rfl), He.free_ok X G (c.fact 22 (f := .free "min") rfl), He.free_ok X G (c.fact 23 (f := .free "range") rfl), He.free_ok X G (c.fact 24 (f := .free "str") rfl), He.free_ok X G (c.fact 25 (f := .free "super") rfl), He.free_ok X G (c.fact 26 (f := .free "tuple") rfl), He.free_ok X G (c.fact 27 (f := .free "zip") rfl), He.glo_ok X G (c.fact 0 (f := .glo "_law_box") rfl), c.def_ 0 (d := q_Lbox) rfl, He.glo_ok X G (c.fact 1 (f := .glo "_law_take") rfl), c.def_ 1 (d := q_Ltake) rfl, He.glo_ok X G (c.fact 2 (f := .glo "_law_same") rfl), c.def_ 2 (d := q_Lsame) rfl, He.glo_ok X G (c.fact 3 (f := .glo "_law_flags") rfl), c.def_ 3 (d := q_Lflags) rfl, He.glo_ok X G (c.fact 4 (f := .glo "_law_one_right") rfl), c.def_ 4 (d := q_Lone_right) rfl, He.glo_ok X G (c.fact 5 (f := .glo "_law_right") rfl), c.def_ 5 (d := q_Lright) rfl, He.glo_ok X G (c.fact 6 (f := .glo "law") rfl), c.def_ 6 (d := q_law) rfl⟩
def spLaw (K : PySem.W.Frag) : Sp := fun vs H Q _ => ∃ (a : Addr) (ns : List Int), vs = [.ref a] ∧ SqL K H a (ns.map V.int) ∧ ns.length ≤ 63 ∧ ∀ H', Q (.bl true) H'
theorem facts {w : World} {K : PySem.W.Frag} {h : Heap} {mg : Str → Option Value} {f : Addr} (X : K.In h) (G : h.Ns mainGlobals mg) (hfa : mg ("law" : Str) = some (.ref f)) (c : DVX.SaysX fa fn file xs K) :
    ∃ fd : FuncData, (∀ (s : Shared) (v : Value), BindsTo s fd ⟨[v], []⟩ [("_law_script", v)]) ∧ ∀ base : Heap, K.In base → base.Ns mainGlobals mg → FnOk (PySem.Challenge.rw_putinside_k25_error_classes).prog w K mg base CX0 11 f fd ["_law_script"] (spLaw K) := by
  have T := tx X G c.base
  have TX : ExT (PySem.Challenge.rw_putinside_k25_error_classes).prog K mg XS := by
    refine c.ext (xs := xs) txt txt0 T.b_super ?_ ?_ ?_ ?_
    · unfold xs
      simp only [List.forall_mem_cons, List.not_mem_nil, false_implies, implies_true, and_true]
      exact ⟨He.glo_ok X G (c.base.fact 28 (f := .glo "OtherNesting") rfl), He.glo_ok X G (c.base.fact 29 (f := .glo "Duplicate") rfl), He.glo_ok X G (c.base.fact 30 (f := .glo "NotFull") rfl), He.glo_ok X G (c.base.fact 31 (f := .glo "BadText") rfl), He.glo_ok X G (c.base.fact 32 (f := .glo "BadLine") rfl), He.glo_ok X G (c.base.fact 33 (f := .glo "NoBox") rfl), He.glo_ok X G (c.base.fact 34 (f := .glo "NoGap") rfl), He.glo_ok X G (c.base.fact 35 (f := .glo "NoIndex") rfl), He.glo_ok X G (c.base.fact 36 (f := .glo "NoNumber") rfl), He.glo_ok X G (c.base.fact 37 (f := .glo "NoState") rfl), He.glo_ok X G (c.base.fact 38 (f := .glo "Closed") rfl), He.glo_ok X G (c.base.fact 39 (f := .glo "Outer") rfl), He.glo_ok X G (c.base.fact 40 (f := .glo "Stuck") rfl), He.glo_ok X G (c.base.fact 41 (f := .glo "Blocked") rfl), He.glo_ok X G (c.base.fact 42 (f := .glo "TooMany") rfl), He.glo_ok X G (c.base.fact 43 (f := .glo "Full") rfl)⟩
    · unfold xs
      simp only [List.forall_mem_cons, List.not_mem_nil, false_implies, implies_true, and_true]
      exact ⟨(by decide), (by decide), (by decide), (by decide), (by decide), (by decide), (by decide), (by decide), (by decide), (by decide), (by decide), (by decide), (by decide), (by decide), (by decide), (by decide)⟩
    · unfold exBases
      simp only [List.forall_mem_cons, List.not_mem_nil, false_implies, implies_true, and_true]
      exact ⟨T.b_ValueError, T.b_LookupError, T.b_RuntimeError, T.b_OverflowError, T.b_IndexError, T.b_KeyError, T.b_NotImplementedError⟩
    · unfold xs
      simp only [List.forall_mem_cons, List.not_mem_nil, false_implies, implies_true, and_true]
      exact ⟨(by decide), (by decide), (by decide), (by decide), (by decide), (by decide), (by decide), (by decide), (by decide), (by decide), (by decide), (by decide), (by decide), (by decide), (by decide), (by decide)⟩
  have e := hfa.symm.trans T.g_law
  cases e
  obtain ⟨fd, F⟩ := T.d_law
  have b := FunD.bindsA (ps := ["_law_script"]) F fun _ _ _ _ _ _ us hl => match us, hl with | [_], _ => rfl
  refine ⟨fd, fun s v => b s [v] rfl, fun base _ _ => ?_⟩
  obtain ⟨fd2, kp, bn, ok, lk⟩ := (ok_law (P := (PySem.Challenge.rw_putinside_k25_error_classes).prog) (w := w) (base := base) T TX).ex
  cases lk.uniq (.of F)
  refine ok.imp fun vs H Q E h => ?_
  obtain ⟨a, ns, rfl, hS, hl, hQ⟩ := h
  refine ⟨H, [.scr ns], [], fun _ _ z => z, .val (.scr hS) .nil, by simp, ?_⟩
  rw [mlaw_k25 hl]
  intro v H' G' _ r
  cases r
  exact hQ H'
end K25
open PySem PySem.W PySem.Calls PyProof.Rows
theorem PySem.Challenge.cw_putinside_k25_error_classes_holds : PySem.Challenge.rw_putinside_k25_error_classes.Holds := by
  w_on; o_law
  refine HandSHeadRun.head_any (r := OpenLaw.row PySem.Challenge.rw_putinside_k25_error_classes) (q := view (OpenLaw.row PySem.Challenge.rw_putinside_k25_error_classes).prog [24]) (H := K25.hk) (ob := K25.ob) (M := 9000) (loose := K25.loose) (d := HandSHeadRun.topDef (OpenLaw.row PySem.Challenge.rw_putinside_k25_error_classes).prog 24) (kwd := []) K25.ob_eq
    (by kernel_rfl) (fun s => by kernel_rfl) K25.run (by kernel_rfl) (by kernel_rfl) (by kernel_rfl) (by rfl) (by first | assumption | decide +kernel) (by decide +kernel) ⟨rfl, rfl, rfl, rfl, rfl, by decide +kernel⟩ ?hw ?hc
  case hw => w_witness2
  case hc =>
    refine L2.walk_ofE (l := PySem.Challenge.rw_putinside_k25_error_classes) (n := 63) (k := 11) (x := "_law_script") (CX := L2.CX0) rfl (by decide) (by kernel_rfl) ⟨rfl, by decide, by decide⟩ ?F (fun _ _ _ _ z => z)
    intro w mg fa h Y G hmg0
    obtain ⟨K, KX, c⟩ := Y
    have hmg : mg ("law" : PySem.Str) = some (.ref fa) := by
      have e : (HandSHeadRun.topDef (OpenLaw.row PySem.Challenge.rw_putinside_k25_error_classes).prog 24).name = ("law" : PySem.Str) := by kernel_rfl
      rw [← e]
      exact hmg0
    obtain ⟨fd, hb, hF⟩ := K25.facts (w := w) KX G hmg c
    exact ⟨K, fd, K25.spLaw K, KX, hb, fun H a ns hl _ hS => ⟨a, ns, rfl, hS, hl, fun _ => rfl⟩, hF⟩
end
