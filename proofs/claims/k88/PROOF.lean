import PyProof.Rows.All
import Wide.All
import OpenK.AllK
import Wide.FinOn
import KE.KStateDown
import Lean
import KE.KExcLine
import HandS.ForMost
import HandS.ForExc
import HandS.Lambda
import HandS.EndTab
import HandS.HeadWalk
import HandS.ExcSuper
import HandS.ExcIs
import HandS.ExcValue
import HandS.CallLocal
import HandS.IsInst
import HandS.Wide
import HandS.Flow
import HandS.Evl
import HandS.Steps
import HandS.Defaults
import HandS.Head0
import HandS.Head1
import HandS.Head2
import HandS.HeadHook1
import HandS.HeadHook2
import HandS.HeadHook3
import HandS.HeadHook4
import KE.KExcIs
import PySem.Challenge.RW_whoeversends_k88_texts_of_rows_and_bits
/-! ## WhHook -/
set_option Elab.async false
set_option linter.all false
set_option maxRecDepth 100000
set_option maxHeartbeats 4000000
/-! The hook of the head: facts of names, defs, own errors with super().__init__, tables of defs that make lambdas. -/
namespace Wh
open PySem PySem.Spec PyProof.Rows L2 He
abbrev Fr' := PySem.W.Frag
abbrev St := L2.St
def asW (g : Addr → Option Obj) (n : Nat) : List Addr := PySem.cStatics :: asD g n
def frW (g : Addr → Option Obj) (n : Nat) : Fr' := frT g (asW g n)
/-- a def with a closure: its text and the closure's names -/
abbrev FnC : Type := Option (Str × Str × Arguments × FuncBody × Scope × Addr × List Str × Addr)
def fnC (K : Fr') (f : Addr) : FnC := match K.lookup f with
  | some ⟨_, _, .func fd, _⟩ => some (fd.name, fd.qualname, fd.params, fd.body, fd.scope, fd.globals, fd.closure.map (·.1), fd.builtins)
  | _ => none
/-- an own error's __init__: the class's name, its fields, the text -/
structure ExD where
  cls : Str
  qual : Str
  fields : List Str
  params : Arguments
  body : List Stmt
  scope : Scope
def ExD.val (d : ExD) : FnC := some ("__init__", d.qual, d.params, .stmts d.body, d.scope, mainGlobals, [("__class__" : Str)], builtinsNs)
def iniA (K : Fr') (x : Str) : Addr := ma K (ga K x) "__init__"
def fdOf (K : Fr') (f : Addr) : Option FuncData := match K.lookup f with
  | some ⟨_, _, .func fd, _⟩ => some fd
  | _ => none
def cellB (K : Fr') (cl : List (Str × Addr)) (C : Addr) : Bool := match cl with
  | [(_, cc)] => (match K.lookup cc with
    | some ⟨_, _, .cell (some (.ref D)), _⟩ => decide (D = C)
    | _ => false)
  | _ => false
def codeB (K : Fr') (cd : Value) (q file : Str) : Bool := PySem.W.codeIn K cd q && match cd with
  | .ref c => (match K.lookup c with
    | some ⟨_, _, .fields vs, _⟩ => (match (vs[2]? : Option Value) with
      | some (.str f _) => decide (f = file)
      | _ => false)
    | _ => false)
  | _ => false
def noDf (v : Value) : Bool := match v with
  | .none => true
  | _ => false
def funB (K : Fr') (f C : Addr) (q file : Str) : Bool := match K.lookup f with
  | some ⟨_, _, .func fd, _⟩ => cellB K fd.closure C && (codeB K fd.code q file && noDf fd.defaults)
  | _ => false
/-- what any error class says of itself: its instances are asked for their class, their fields -/
def excC (K : Fr') (x : Str) : Bool :=
  eqO (PySem.W.findIn K (.ref (ga K x)) "__getattribute__") (some (some (.builtin "BaseException.__getattribute__"))) &&
  (eqO (PySem.W.findIn K (.ref (ga K x)) "__getattr__") (some none) &&
  (decide (PySem.W.subIn K (.ref (ga K x)) (.type "BaseException") = some true) &&
  (PySem.W.hasDictIn K (ga K x) &&
  (eqO (PySem.W.findIn K (.ref (ga K x)) "__class__") (some (some (.builtin "object.__class__"))) &&
  (decide (PySem.W.mroIn K (ga K x) (.type "object") = some true))))))
/-- what is asked of an error class that is made here -/
def excB (K : Fr') (d : ExD) (file : Str) : Bool :=
  PySem.W.excInitIn K (ga K d.cls) veBase "ValueError.__new__" &&
  (PySem.W.excOver K (ga K d.cls) veBase &&
  (eqO (PySem.W.findIn K (.ref (ga K d.cls)) "__init__") (some (some (.ref (iniA K d.cls)))) &&
  (PySem.W.isFn K (.ref (iniA K d.cls)) &&
  (PySem.W.keepIn K (.ref (ga K d.cls)) &&
  (eqO (PySem.W.findIn K (.ref (ga K d.cls)) "__setattr__") (some (some (.builtin "object.__setattr__"))) &&
  (decide (PySem.W.subIn K (.ref (ga K d.cls)) (.type "ValueError") = some true) &&
  (decide (PySem.W.typeIn K (.ref (ga K d.cls)) = some (.type "type")) &&
  (decide (PySem.W.mroIn K (ga K d.cls) (.ref (ga K d.cls)) = some true) &&
  (eqO (PySem.W.ks_superIn K (ga K d.cls) (ga K d.cls) "__init__") (some (some (.builtin "ValueError.__init__"))) &&
  ((d.fields.all fun f => eqO (PySem.W.findIn K (.ref (ga K d.cls)) f) (some none)) &&
  (excC K d.cls && funB K (iniA K d.cls) (ga K d.cls) d.qual file)))))))))))
/-- the class that is called y stands above the class that is called x, or not -/
def kitX (K : Fr') (p : Str × Str × Bool) : Bool := decide (PySem.W.kitOne K (.ref (ga K p.1)) (.ref (ga K p.2.1)) = some p.2.2)
structure HkD where
  fa : List Fa
  fn : List DefD
  ex : List ExD
  kit : List (Str × Str × Bool)
  tf : List Defn
  file : Str
abbrev AlW : Type := (AlD × List FnC) × Bool
def restB (d : HkD) (g : Addr → Option Obj) (K : Fr') : Bool :=
  eqO (PySem.W.nsIn K cStatics "thirdparty.any") (some none) && ((d.ex.all fun e => excB K e d.file) && ((d.kit.all fun p => kitX K p) && tabsB g d.tf K))
def obsW (n : Nat) (d : HkD) (g : Addr → Option Obj) : AlW := ((obsD d.fa d.fn (frW g n), d.ex.map fun e => fnC (frW g n) (iniA (frW g n) e.cls)), restB d g (frW g n))
def valW (d : HkD) : AlW := ((valD d.fn, d.ex.map ExD.val), true)
structure SaysW (d : HkD) (h : Heap) (K : Fr') : Prop where
  says : SaysD d.fa d.fn K
  ini : d.ex.map (fun e => fnC K (iniA K e.cls)) = d.ex.map ExD.val
  opq : PySem.W.nsIn K cStatics "thirdparty.any" = some none
  exc : ∀ e ∈ d.ex, excB K e d.file = true
  kit : ∀ p ∈ d.kit, kitX K p = true
  hd : ∀ p ∈ d.tf, PySem.W.codeHdIn K (cT K p).1 (cT K p).2 = true
  out : ∀ p ∈ d.tf, K.lookup (cT K p).2 = none
  empty : ∀ p ∈ d.tf, h.get? (cT K p).2 = some { cls := .none, data := .fields #[] }
theorem saysW_of {n : Nat} {d : HkD} {h : Heap} (e : obsW n d h.get? = valW d) : SaysW d h (frW h.get? n) := by
  have e1 : obsD d.fa d.fn (frW h.get? n) = valD d.fn := congrArg (fun z : AlW => z.1.1) e
  have e2 : (d.ex.map fun e => fnC (frW h.get? n) (iniA (frW h.get? n) e.cls)) = d.ex.map ExD.val := congrArg (fun z : AlW => z.1.2) e
  have e3 : restB d h.get? (frW h.get? n) = true := congrArg (fun z : AlW => z.2) e
  obtain ⟨a1, a2⟩ := ba e3
  obtain ⟨a2, a3⟩ := ba a2
  obtain ⟨a3, a4⟩ := ba a3
  have tab : ∀ p ∈ d.tf, PySem.W.codeHdIn (frW h.get? n) (cT (frW h.get? n) p).1 (cT (frW h.get? n) p).2 = true ∧ ∃ o, h.get? (cT (frW h.get? n) p).2 = some o ∧ emptyTab o = true := fun p hp => by
    obtain ⟨b1, b2⟩ := ba (List.all_eq_true.mp a4 p hp)
    refine ⟨b1, ?_⟩
    cases q : h.get? (cT (frW h.get? n) p).2 with
    | none =>
      rw [q] at b2
      cases b2
    | some o =>
      rw [q] at b2
      exact ⟨o, rfl, b2⟩
  refine ⟨e1, e2, eqO_ok a1, fun e he => List.all_eq_true.mp a2 e he, fun p hp => List.all_eq_true.mp a3 p hp, fun p hp => (tab p hp).1, fun p hp => ?_, fun p hp => ?_⟩
  · obtain ⟨o, h1, h2⟩ := (tab p hp).2
    exact frT_none h1 h2
  · obtain ⟨o, h1, h2⟩ := (tab p hp).2
    rw [h1, emptyTab_eq h2]
def hookW (n : Nat) (d : HkD) : PySem.W.Hook where
  α := AlW
  obs := fun s => obsW n d s.heap.get?
  val := fun _ => valW d
  says := fun _ h => ∃ K : Fr', K.In h ∧ SaysW d h K
  of := fun _ _ e => ⟨_, frT_in, saysW_of e⟩
  keeps := fun _ _ _ ⟨K, hK, c⟩ k => ⟨K, PySem.W.Frag.In.keeps hK k, ⟨c.says, c.ini, c.opq, c.exc, c.kit, c.hd, c.out, fun p hp => k _ _ (c.empty p hp)⟩⟩
theorem obsW_eq {n : Nat} {d : HkD} {g : Addr → Option Obj} {s : Shared} (h : ∀ a, g a = s.heap.get? a) : obsW n d g = (hookW n d).obs s := by
  have e : g = s.heap.get? := funext h
  rw [e]
  rfl
end Wh
/-! ## WhExc -/
set_option Elab.async false
set_option linter.all false
set_option maxRecDepth 100000
set_option maxHeartbeats 4000000
/-! Own errors whose __init__ says super().__init__(..) and keeps what it was given. -/
namespace Wh
open PySem PySem.W PySem.Calls PyProof.Rows PySem.HandSPX
/-! ### the text of such an __init__ -/
def iA1 (x : Str) (p1 p2 : Pos) : Arguments := { posonlyargs := [], args := [{ arg := "self", annotation := none, pos := p1 }, { arg := x, annotation := none, pos := p2 }], vararg := none, kwonlyargs := [], kw_defaults := [], kwarg := none, defaults := [] }
def iA2 (x y : Str) (p1 p2 p3 : Pos) : Arguments := { posonlyargs := [], args := [{ arg := "self", annotation := none, pos := p1 }, { arg := x, annotation := none, pos := p2 }, { arg := y, annotation := none, pos := p3 }], vararg := none, kwonlyargs := [], kw_defaults := [], kwarg := none, defaults := [] }
def supS (args : List Expr) (q1 q2 q3 q4 q5 : Pos) : Stmt := .Expr (.Call (.Attribute (.Call (.Name "super" q1) [] [] q2) "__init__" q3) args [] q4) q5
def stoS (x : Str) (q1 q2 q3 q4 : Pos) : Stmt := .Assign [.Attribute (.Name "self" q1) x q2] (.Name x q3) q4
def iS1 (x : Str) : Scope := { kind := .function, names := [(PySem.Str.ofString "self", .local), (x, .local), (PySem.Str.ofString "__class__", .free), (PySem.Str.ofString "super", .globalImplicit)], isGenerator := false, isCoroutine := false, more := [] }
def iS2 (x y : Str) : Scope := { kind := .function, names := [(PySem.Str.ofString "self", .local), (x, .local), (y, .local), (PySem.Str.ofString "__class__", .free), (PySem.Str.ofString "super", .globalImplicit)], isGenerator := false, isCoroutine := false, more := [] }
/-- what is asked of the written part at the class C, its __init__ at fI -/
structure ExK (prog : Program) (K : Fr') (mg : Str → Option Value) (C fI : Addr) : Prop where
  ini : excInitIn K C He.veBase "ValueError.__new__" = true
  over : excOver K C He.veBase = true
  mro : ∃ cd, clsIn K C = some cd ∧ refsVE cd.mro = true ∧ cd.hasDict = true
  at_ : findIn K (.ref C) "__init__" = some (some (.ref fI))
  fn : isFn K (.ref fI) = true
  sa : findIn K (.ref C) "__setattr__" = some (some (.builtin "object.__setattr__"))
  sv : subIn K (.ref C) (.type "ValueError") = some true
  self : mroIn K C (.ref C) = some true
  sup : ks_superIn K C C "__init__" = some (some (.builtin "ValueError.__init__"))
  opq : nsIn K cStatics "thirdparty.any" = some none
  gs : mg "super" = none
  noS : (prog.main.scope.names.lookup ("super" : Str)).isSome = false
/-- the def of __init__ as it stands -/
def ExF (prog : Program) (K : Fr') (C fI : Addr) (qual : Str) (params : Arguments) (body : List Stmt) (scope : Scope) : Prop :=
  ∃ (od : Option Addr) (kV doc pm : Value) (an : Option Addr) (cda : Addr) (ct : Value) (osl : Array (Option Value)) (cc : Addr) (cl : Value) (cld : Option Addr) (csl : Array (Option Value)) (ccl : Value) (cdd : Option Addr) (vs : Array Value) (ccs : Array (Option Value)) (file : Str) (tf : Tok),
    K.lookup fI = some ⟨.type "function", od, .func (ksFn "__init__" qual params body scope .none kV doc pm an (.ref cda) ct cc), osl⟩ ∧ codeIn K (.ref cda) qual = true ∧
    K.lookup cc = some ⟨cl, cld, .cell (some (.ref C)), csl⟩ ∧ K.lookup cda = some ⟨ccl, cdd, .fields vs, ccs⟩ ∧ vs[2]? = some (.str file tf) ∧ ((prog.main.file : Str) == file) = true
/-- a made error: d its own dict -/
structure ErrMade (h h' : Heap) (e C d : Addr) (m : Str → Option Value) : Prop where
  keep : ∀ b o, h.get? b = some o → h'.get? b = some o
  new : h.objs.size ≤ e
  obj : ∃ oe vs, h'.get? e = some oe ∧ oe.cls = .ref C ∧ oe.dict = some d ∧ oe.data = .fields vs ∧ vs[1]? = some .none
  dbig : h.objs.size ≤ d
  dne : d ≠ e
  ns : h'.Ns1 d m
section
variable {prog : Program} {w : World} {A : Around} {E : Value → Shared → Prop} {R : Result → Shared → Prop} {s : Shared} {K : Fr'} {mg mb : Str → Option Value} {C fI : Addr}
/-- a later store: the error has its dict -/
theorem exc_osa2' {hp : Heap} {g : Array GenState} {d : Drawn} {t : Nat} {os : OsState} {name : Str} {tk : Tok} {v : Value} {x dx : Addr} {fv : Array Value} {m0 : Str → Option Value} {nl : List Str} {cd : ClassData} (hov : excOver K C He.veBase = true) (hcd : clsIn K C = some cd) (hh : cd.hasDict = true) (X : K.In hp)
    (hx : hp.get? x = some { cls := .ref C, dict := some dx, data := .fields fv }) (hns : hp.Ns1 dx m0) (hw : PySem.Within m0 nl) (hz : nl.length ≤ 1000) (ha : findIn K (.ref C) name = some none)
    (hq : ∀ h' tk', (∀ b o, b ≠ dx → hp.get? b = some o → h'.get? b = some o) → h'.Ns1 dx (fun y => if y = name then some v else m0 y) → R (.ok (.ret .none)) ⟨h', g, d, tk', os⟩) :
    codeAny (model prog w) A (.call (.builtin "object.__setattr__") ⟨[.ref x, .str name tk, v], []⟩) R ⟨hp, g, d, t, os⟩ := by
  obtain ⟨oD, esD, epD, hoD, hdD, _⟩ := hns.count hw
  have I : InstAt hp x { cls := .ref C, dict := some dx, data := .fields fv } C (some oD) := ⟨hx, rfl, rfl, hoD⟩
  refine osa_openX F.store_ValueError X I hov (r := none) (by unfold takerIn; rw [ha]; rfl) fun b => ?_
  refine wpAny_bind (wpAny_pure (wpAny_bind (wpAny_bind (wpAny_loadPart hx (wpAny_bind ((looks_clsIn X hcd).here ?_))))))
  rw [hh]
  refine wpAny_pure (a := some dx) ?_
  refine PySem.ESX.store_in_old hns hw hz fun h' tk' hn' hs => ?_
  exact hq h' tk' (fun b o hb ho => (hs.2 b hb).trans ho) hn'
/-- super().__init__(..), the first statement: hp the heap at the call of the class, the frame of __init__ at L, the error at x with no dict yet -/
theorem sup_run {hp h : Heap} {g : Array GenState} {d : Drawn} {t : Nat} {os : OsState} {x L f cda cc t0 : Addr} {m : Str → Option Value} {qual : Str} {params : Arguments} {body rest : List Stmt} {scope : Scope} {vs : List Value} {args : List Expr} {q1 q2 q3 q4 q5 : Pos} {Q : Flow → Shared → Prop}
    {oc : Value} {od : Option Addr} {dV kV doc pm : Value} {an : Option Addr} {ct : Value} {osl : Array (Option Value)} {cl : Value} {cld : Option Addr} {csl : Array (Option Value)} {ccl : Value} {cdd : Option Addr} {cvs : Array Value} {ccs : Array (Option Value)} {file : Str} {tf : Tok} {ar : Arg}
    (T : ExK prog K mg C f) (X₀ : K.In hp) (F : Fr hp L h m) (G : hp.Ns mainGlobals mg) (B : hp.Ns builtinsNs mb) (hmb : mb "super" = some (.type "super"))
    (lk : K.lookup f = some ⟨oc, od, .func (ksFn "__init__" qual params body scope dV kV doc pm an (.ref cda) ct cc), osl⟩)
    (lc : K.lookup cc = some ⟨cl, cld, .cell (some (.ref C)), csl⟩) (ld : K.lookup cda = some ⟨ccl, cdd, .fields cvs, ccs⟩) (lv : cvs[2]? = some (.str file tf)) (lf : ((prog.main.file : Str) == file) = true)
    (hx : h.get? x = some (excObj C t0 none .none)) (xn : hp.get? x = none) (xL : x ≠ L) (ms : m ar.arg = some (.ref x)) (hz : vs.length ≤ sizeLine)
    (hks : scope.names.lookup ("super" : Str) = some .globalImplicit) (hkc : scope.names.lookup ("__class__" : Str) = some .free) (hka : scope.names.lookup ar.arg = some .local) (hk : scope.kind = .function) (hp0 : (params.posonlyargs ++ params.args).head? = some ar)
    (hargs : ∀ (u : Value) (s₂ : Shared) (Q' : Args → Shared → Prop) (E' : Value → Shared → Prop), s₂.heap.Ns L m → Q' ⟨vs, []⟩ s₂ → wpAny (model prog w) A (evalArgs u true (backTo q4 (starEach args (ksEnv qual scope L f (.ref cda) cc))) []) Q' E' s₂)
    (hpl : (backTo q4 (starEach args (ksEnv qual scope L f (.ref cda) cc))).any (·.1) = false)
    (hev : ∃ pl : Sem Bool, eval (.Call (.Attribute (.Call (.Name "super" q1) [] [] q2) "__init__" q3) args [] q4) (ksEnv qual scope L f (.ref cda) cc) = (do
      let ov ← attributeBase (.Call (.Name "super" q1) [] [] q2) "__init__" (ksEnv qual scope L f (.ref cda) cc) (eval (.Call (.Name "super" q1) [] [] q2) (ksEnv qual scope L f (.ref cda) cc))
      standAt q3.atName
      let (fx, first) ← holding [ov] (getMethod ov "__init__" pl)
      callWith q4 fx first (backTo q4 (starEach args (ksEnv qual scope L f (.ref cda) cc))) []))
    (hqt : interactive (ksEnv qual scope L f (.ref cda) cc) = false) (hsw : swapsWith (.Call (.Attribute (.Call (.Name "super" q1) [] [] q2) "__init__" q3) args [] q4) none q5.line (ksEnv qual scope L f (.ref cda) cc) = pure false)
    (hq : ∀ h' t1 tk, Fr hp L h' m → h'.get? x = some (excObj C t1 none .none) → wpAny (model prog w) A (execs rest (ksEnv qual scope L f (.ref cda) cc)) Q E ⟨h', g, d, tk, os⟩) :
    _root_.PySem.wpAt (model prog w) A (.func body (ksEnv qual scope L f (.ref cda) cc)) (execs (supS args q1 q2 q3 q4 q5 :: rest) (ksEnv qual scope L f (.ref cda) cc)) Q E ⟨h, g, d, t, os⟩ := by
  obtain ⟨pl, he⟩ := hev
  obtain ⟨cd, hcd, hmr, hhd⟩ := T.mro
  have X : K.In h := X₀.keeps F.keep
  obtain ⟨oD, hD1, hD2⟩ : ∃ oD, h.get? C = some oD ∧ oD.data = .cls cd := by
    have hD := hcd
    unfold clsIn at hD
    split at hD
    · rename_i c d cd' sl ho
      cases hD
      exact ⟨_, X _ _ ho, rfl⟩
    · cases hD
  refine ks_wpAt_execs_cons (ks_wpAt_Expr_any (ks_wpAt_MethodCall (pl := pl) ?_ he) hqt hsw)
  refine ks_wpAt_super_base (env := ksEnv qual scope L f (.ref cda) cc) hks hkc rfl rfl (X _ _ lk) rfl hp0 rfl (X _ _ ld) rfl lv lf T.noS ?_
  refine ks_loadName_global hk hks (loadGlobal_builtin (env := ksEnv qual scope L f (.ref cda) cc) (G.keeps F.keep) T.gs (B.keeps F.keep) hmb ⟨rfl, ?_⟩)
  refine wpAny_loadName_free hk hkc rfl ⟨_, X _ _ lc, rfl⟩ ?_
  refine wpAny_loadName_local hk hka F.ns ms ?_
  refine ks_wpAny_isType_cls hD1 hD2 ⟨rfl, ?_⟩
  refine ks_wpAny_call_super hD1 hD2 hx rfl (fun c e => by cases e) (looks_mroIn X T.self) (fun h1 e1 k1 => ?_)
  have I : InstAt h1 x (excObj C t0 none .none) C none := ⟨k1 _ _ hx, rfl, rfl, trivial⟩
  have X1 := X.keeps k1
  have hxC : x ≠ C := fun z => by
    rw [z, hD1] at hx
    cases hx
    cases hD2
  have hsup : alongIn K "__init__" ((cd.mro.dropWhile (· != .ref C)).drop 1) = some (some (.builtin "ValueError.__init__")) := by
    have z := T.sup
    unfold ks_superIn at z
    rw [hcd] at z
    exact z
  refine kxs_getMethod kxs_ValueError e1 (looks_opaque X1 T.opq) (l₀ := cd.mro) (fun A Q E s k q => wpAny_bind ((looks_clsIn X1 hcd) A _ E s k (wpAny_pure q))) rfl X1 hsup (I.type.andThen (looks_subIn X1 T.sv)) hxC rfl ?_
  have k2 : ∀ b o, h.get? b = some o → (h1.push (kxs_mw "ValueError.__init__" x)).get? b = some o := fun b o e => Heap.get?_push_of_some _ (k1 b o e)
  obtain ⟨oL, es, ep, hL, r⟩ := F.ns
  have F2 : Fr hp L (h1.push (kxs_mw "ValueError.__init__" x)) m := ⟨⟨oL, es, ep, k2 _ _ hL, r⟩, fun b o e => k2 b o (F.keep b o e), F.above⟩
  have hu : (h1.push (kxs_mw "ValueError.__init__" x)).get? h1.objs.size = some (kxs_mw "ValueError.__init__" x) := Heap.get?_push_at rfl rfl
  have lL : L < h1.objs.size := Heap.lt_size (k1 _ _ hL)
  have lx : x < h1.objs.size := Heap.lt_size (k1 _ _ hx)
  have un : hp.get? h1.objs.size = none := by
    cases z : hp.get? h1.objs.size with
    | none => rfl
    | some o => exact absurd (Heap.lt_size (k1 _ _ (F.keep _ _ z))) (Nat.lt_irrefl _)
  have N : News hp L (h1.push (kxs_mw "ValueError.__init__" x)) [(h1.objs.size, kxs_mw "ValueError.__init__" x), (x, excObj C t0 none .none)] := fun p hp' => by
    rcases List.mem_cons.mp hp' with rfl | hp'
    · exact ⟨hu, Nat.ne_of_gt lL, un⟩
    · obtain rfl := List.mem_singleton.mp hp'
      exact ⟨k2 _ _ hx, xL, xn⟩
  refine kxs_callWith (i := "ValueError.__init__") (x := x) hpl (hargs _ _ _ _ F2.ns ⟨hu, ?_⟩)
  refine kxs_call (s := ⟨h1.push (kxs_mw "ValueError.__init__" x), g, d, t + 1, os⟩) (C := C) (t := t0) (dv := none) (c2 := .none) F2 X₀ N PySem.F.excBase_ValueError T.ini (List.mem_cons_self ..) (UpdF.tail (Nat.ne_of_gt lx) (UpdF.head (fun p hp' => nomatch hp'))) hz fun t' h' F' N' _ => ?_
  exact wpAt_of_wpAny (hq h' t' _ F' (N' (x, excObj C t' none .none) (by simp)).1)
/-- how the first statement's call is written: told of the very text (rfl) -/
structure SupT (args : List Expr) (q1 q2 q3 q4 q5 : Pos) : Prop where
  ev : ∀ env : Env, ∃ pl : Sem Bool, eval (.Call (.Attribute (.Call (.Name "super" q1) [] [] q2) "__init__" q3) args [] q4) env = (do
      let ov ← attributeBase (.Call (.Name "super" q1) [] [] q2) "__init__" env (eval (.Call (.Name "super" q1) [] [] q2) env)
      standAt q3.atName
      let (fx, first) ← holding [ov] (getMethod ov "__init__" pl)
      callWith q4 fx first (backTo q4 (starEach args env)) [])
  sw : ∀ env : Env, swapsWith (.Call (.Attribute (.Call (.Name "super" q1) [] [] q2) "__init__" q3) args [] q4) none q5.line env = pure false
theorem lk1 (x : Str) (hxs : (("self" : Str) == x) = false) (a b : Value) : ([(("self" : Str), a), (x, b)].reverse.lookup ("self" : Str) = some a) ∧ [(("self" : Str), a), (x, b)].reverse.lookup x = some b := by
  constructor
  · simp [List.lookup, hxs]
  · simp [List.lookup]
theorem made1 {hp : Heap} {g : Array GenState} {d : Drawn} {t : Nat} {os : OsState} {x qual : Str} {v : Value} {p1 p2 p3 q1 q2 q3 q4 q5 r1 r2 r3 r4 : Pos} (T : ExK prog K mg C fI) (hF : ExF prog K C fI qual (iA1 x p1 p2) [supS [.Name x p3] q1 q2 q3 q4 q5, stoS x r1 r2 r3 r4] (iS1 x)) (S : SupT [.Name x p3] q1 q2 q3 q4 q5)
    (hbind : ∀ (kV doc pm : Value) (an : Option Addr) (cda : Addr) (ct : Value) (cc : Addr) (a b : Value), bindArgs (ksFn "__init__" qual (iA1 x p1 p2) [supS [.Name x p3] q1 q2 q3 q4 q5, stoS x r1 r2 r3 r4] (iS1 x) .none kV doc pm an (.ref cda) ct cc) ⟨[a, b], []⟩ = pure [(("self" : Str), a), (x, b)])
    (hno : findIn K (.ref C) x = some none) (hxs : (("self" : Str) == x) = false) (hxc : (x == ("__class__" : Str)) = false) (hxp : (x == ("super" : Str)) = false) (hxd : (x == ("__debug__" : Str)) = false)
    (X : K.In hp) (G : hp.Ns mainGlobals mg) (B : hp.Ns builtinsNs mb) (hmb : mb "super" = some (.type "super")) (hlim : hp.NoLimit) (hroom : A.depth + 1 < recursionLimit)
    (hq : ∀ h' tk e dx, ErrMade hp h' e C dx (fun y => if y = x then some v else none) → R (.ok (.ret (.ref e))) ⟨h', g, d, tk, os⟩) :
    codeAny (model prog w) A (.call (.ref C) ⟨[v], []⟩) R ⟨hp, g, d, t, os⟩ := by
  obtain ⟨nm, N', qn, bs, bm, hdct, sn, sub, ab, col, dd, k0, k1, k2, k3, k5, hC, hT⟩ := excInit_of X T.ini
  obtain ⟨od, kV, doc, pm, an, cda, ct, osl, cc, cl, cld, csl, ccl, cdd, cvs, ccs, file, tf, lk, hcq, lc, ld, lv, lf⟩ := hF
  obtain ⟨cd, hcd, hmr, hhd⟩ := T.mro
  have hsz1 : [v].length ≤ sizeLine := by
    rw [sizeLine_eq]
    exact (by decide : 1 ≤ 16777216)
  have k : ∀ b o, hp.get? b = some o → ((hp.push (kdv_tup [v])).push (excO C hp.objs.size)).get? b = some o := fun b o e => Heap.get?_push_of_some _ (Heap.get?_push_of_some _ e)
  have hget : ((hp.push (kdv_tup [v])).push (excO C hp.objs.size)).get? (hp.objs.size + 1) = some (excO C hp.objs.size) := by heap_get
  have xn : hp.get? (hp.objs.size + 1) = none := Heap.get?_none_of_le (Nat.le_succ _)
  have hs2 : ((hp.push (kdv_tup [v])).push (excO C hp.objs.size)).objs.size = hp.objs.size + 1 + 1 := by rw [Heap.size_push, Heap.size_push]
  refine call_own PySem.F.excBase_ValueError hT hC (looks_findIn X T.at_) (fun self => exc_bind (X _ _ lk) rfl self) hsz1 ?_
  obtain ⟨lk_s, lk_x⟩ := lk1 x hxs (.ref (hp.objs.size + 1)) v
  refine ks_codeAny_call_defAt (fd := ksFn "__init__" qual (iA1 x p1 p2) [supS [.Name x p3] q1 q2 q3 q4 q5, stoS x r1 r2 r3 r4] (iS1 x) Value.none kV doc pm an (.ref cda) ct cc) (body := [supS [.Name x p3] q1 q2 q3 q4 q5, stoS x r1 r2 r3 r4]) (binds := [("self", .ref (hp.objs.size + 1)), (x, v)]) ?_ (X.keeps k _ _ lk) rfl (hlim.keeps k) (codeRec_of (X.keeps k) hcq) rfl ?_ ?_ ?_ (fun h₁ hns hk₁ => ?_) rfl rfl rfl
  · show A.depth + 1 < recursionLimit
    exact hroom
  · exact BindsTo.of_eq (hbind _ _ _ _ _ _ _ _ _)
  · intro y hy
    simp only [iS1, List.mem_cons, List.not_mem_nil, or_false] at hy
    rcases hy with rfl | rfl | rfl | rfl <;> intro z <;> cases z
  · intro y hy
    simp only [List.mem_cons, List.not_mem_nil, or_false] at hy
    rcases hy with rfl | rfl
    · rfl
    · show List.lookup x [(PySem.Str.ofString "self", NameKind.local), (x, NameKind.local), (PySem.Str.ofString "__class__", NameKind.free), (PySem.Str.ofString "super", NameKind.globalImplicit)] = _
      simp only [List.lookup, beq_self_eq_true]
      split <;> rfl
  · have keep1 : ∀ b o, hp.get? b = some o → h₁.get? b = some o := fun b o e => hk₁ b o (k b o e)
    have F1 : Fr hp ((hp.push (kdv_tup [v])).push (excO C hp.objs.size)).objs.size h₁ (fun y => [(("self" : Str), Value.ref (hp.objs.size + 1)), (x, v)].reverse.lookup y) := ⟨hns, keep1, by rw [hs2]; exact Nat.le_trans (Nat.le_succ _) (Nat.le_succ _)⟩
    have xL : hp.objs.size + 1 ≠ ((hp.push (kdv_tup [v])).push (excO C hp.objs.size)).objs.size := by rw [hs2]; exact Nat.ne_of_lt (Nat.lt_succ_self _)
    have hxk : List.lookup x (iS1 x).names = some NameKind.local := by
      show List.lookup x [(PySem.Str.ofString "self", NameKind.local), (x, NameKind.local), (PySem.Str.ofString "__class__", NameKind.free), (PySem.Str.ofString "super", NameKind.globalImplicit)] = _
      simp only [List.lookup, beq_self_eq_true]
      split <;> rfl
    have hks : (iS1 x).names.lookup ("super" : Str) = some .globalImplicit := by
      show List.lookup ("super" : Str) [(PySem.Str.ofString "self", NameKind.local), (x, NameKind.local), (PySem.Str.ofString "__class__", NameKind.free), (PySem.Str.ofString "super", NameKind.globalImplicit)] = _
      have e1 : (("super" : Str) == x) = false := by rw [beq_eq_false_iff_ne] at hxp ⊢; exact fun z => hxp z.symm
      have e2 : (("super" : Str) == ("self" : Str)) = false := by decide
      have e3 : (("super" : Str) == ("__class__" : Str)) = false := by decide
      simp only [List.lookup, e1, e2, e3, beq_self_eq_true]
    have hkc : (iS1 x).names.lookup ("__class__" : Str) = some .free := by
      show List.lookup ("__class__" : Str) [(PySem.Str.ofString "self", NameKind.local), (x, NameKind.local), (PySem.Str.ofString "__class__", NameKind.free), (PySem.Str.ofString "super", NameKind.globalImplicit)] = _
      have e1 : (("__class__" : Str) == x) = false := by rw [beq_eq_false_iff_ne] at hxc ⊢; exact fun z => hxc z.symm
      have e2 : (("__class__" : Str) == ("self" : Str)) = false := by decide
      simp only [List.lookup, e1, e2, beq_self_eq_true]
    refine sup_run (hp := hp) (x := hp.objs.size + 1) (ar := { arg := "self", annotation := none, pos := p1 }) (vs := [v]) T X F1 G B hmb lk lc ld lv lf (hk₁ _ _ hget) xn xL lk_s hsz1 hks hkc rfl rfl rfl (fun u s₂ Q' E' hn hq' => ?_) rfl (S.ev _) rfl (S.sw _) fun h' t1 tk F' hx' => ?_
    · refine evalArgs_plain (Calls.spliced_cons (PySem.ESX.ldL hn lk_x ?_ rfl hxk hxd))
      exact Calls.spliced_nil hq'
    · refine wpAny_execs_cons (plainObj_wpAny_Assign_Attribute ?_)
      refine PySem.ESX.ldL F'.ns lk_x (PySem.ESX.ldL F'.ns lk_s ?_) rfl hxk hxd
      have X' := X.keeps F'.keep
      refine set_plain X' (ox := excO C t1) (od := none) ⟨hx', rfl, rfl, trivial⟩ T.sa ?_
      refine exc_osa X' hx' hcd hmr hhd hno (fun h₃ tk₃ dx k₃ dn dne hx₃ hn₃ => ?_)
      refine wpAny_execs_nil ⟨rfl, hq h₃ tk₃ (hp.objs.size + 1) dx ⟨fun b o e => k₃ b o (fun z => by rw [z, xn] at e; cases e) (F'.keep b o e), Nat.le_succ _, ⟨_, _, hx₃, rfl, rfl, rfl, rfl⟩, ?_, dne, hn₃⟩⟩
      have lx := Heap.lt_size hx'
      exact Nat.le_trans (Nat.le_of_lt (Nat.lt_of_succ_lt lx)) dn
theorem lk2 (x y : Str) (hxs : (("self" : Str) == x) = false) (hys : (("self" : Str) == y) = false) (hxy : (x == y) = false) (a b c : Value) : ([(("self" : Str), a), (x, b), (y, c)].reverse.lookup ("self" : Str) = some a) ∧ [(("self" : Str), a), (x, b), (y, c)].reverse.lookup x = some b ∧ [(("self" : Str), a), (x, b), (y, c)].reverse.lookup y = some c := by
  refine ⟨?_, ?_, ?_⟩
  · simp [List.lookup, hxs, hys]
  · simp [List.lookup, hxy]
  · simp [List.lookup]
theorem made2 {hp : Heap} {g : Array GenState} {d : Drawn} {t : Nat} {os : OsState} {x y qual : Str} {v u : Value} {p1 p2 p3 p4 p5 q1 q2 q3 q4 q5 r1 r2 r3 r4 r5 r6 r7 r8 : Pos} (T : ExK prog K mg C fI) (hF : ExF prog K C fI qual (iA2 x y p1 p2 p3) [supS [.Name x p4, .Name y p5] q1 q2 q3 q4 q5, stoS x r1 r2 r3 r4, stoS y r5 r6 r7 r8] (iS2 x y)) (S : SupT [.Name x p4, .Name y p5] q1 q2 q3 q4 q5)
    (hbind : ∀ (kV doc pm : Value) (an : Option Addr) (cda : Addr) (ct : Value) (cc : Addr) (a b c : Value), bindArgs (ksFn "__init__" qual (iA2 x y p1 p2 p3) [supS [.Name x p4, .Name y p5] q1 q2 q3 q4 q5, stoS x r1 r2 r3 r4, stoS y r5 r6 r7 r8] (iS2 x y) .none kV doc pm an (.ref cda) ct cc) ⟨[a, b, c], []⟩ = pure [(("self" : Str), a), (x, b), (y, c)])
    (hno : findIn K (.ref C) x = some none) (hno2 : findIn K (.ref C) y = some none) (hxs : (("self" : Str) == x) = false) (hys : (("self" : Str) == y) = false) (hxy : (x == y) = false) (hxd : (x == ("__debug__" : Str)) = false) (hyd : (y == ("__debug__" : Str)) = false)
    (hlx : (iS2 x y).names.lookup x = some .local) (hly : (iS2 x y).names.lookup y = some .local) (hks : (iS2 x y).names.lookup ("super" : Str) = some .globalImplicit) (hkc : (iS2 x y).names.lookup ("__class__" : Str) = some .free)
    (X : K.In hp) (G : hp.Ns mainGlobals mg) (B : hp.Ns builtinsNs mb) (hmb : mb "super" = some (.type "super")) (hlim : hp.NoLimit) (hroom : A.depth + 1 < recursionLimit)
    (hq : ∀ h' tk e dx, ErrMade hp h' e C dx (fun z => if z = y then some u else if z = x then some v else none) → R (.ok (.ret (.ref e))) ⟨h', g, d, tk, os⟩) :
    codeAny (model prog w) A (.call (.ref C) ⟨[v, u], []⟩) R ⟨hp, g, d, t, os⟩ := by
  obtain ⟨nm, N', qn, bs, bm, hdct, sn, sub, ab, col, dd, k0, k1, k2, k3, k5, hC, hT⟩ := excInit_of X T.ini
  obtain ⟨od, kV, doc, pm, an, cda, ct, osl, cc, cl, cld, csl, ccl, cdd, cvs, ccs, file, tf, lk, hcq, lc, ld, lv, lf⟩ := hF
  obtain ⟨cd, hcd, hmr, hhd⟩ := T.mro
  have hsz1 : [v, u].length ≤ sizeLine := by
    rw [sizeLine_eq]
    exact (by decide : 2 ≤ 16777216)
  have k : ∀ b o, hp.get? b = some o → ((hp.push (kdv_tup [v, u])).push (excO C hp.objs.size)).get? b = some o := fun b o e => Heap.get?_push_of_some _ (Heap.get?_push_of_some _ e)
  have hget : ((hp.push (kdv_tup [v, u])).push (excO C hp.objs.size)).get? (hp.objs.size + 1) = some (excO C hp.objs.size) := by heap_get
  have xn : hp.get? (hp.objs.size + 1) = none := Heap.get?_none_of_le (Nat.le_succ _)
  have hs2 : ((hp.push (kdv_tup [v, u])).push (excO C hp.objs.size)).objs.size = hp.objs.size + 1 + 1 := by rw [Heap.size_push, Heap.size_push]
  refine call_own PySem.F.excBase_ValueError hT hC (looks_findIn X T.at_) (fun self => exc_bind (X _ _ lk) rfl self) hsz1 ?_
  obtain ⟨lk_s, lk_x, lk_y⟩ := lk2 x y hxs hys hxy (.ref (hp.objs.size + 1)) v u
  refine ks_codeAny_call_defAt (fd := ksFn "__init__" qual (iA2 x y p1 p2 p3) [supS [.Name x p4, .Name y p5] q1 q2 q3 q4 q5, stoS x r1 r2 r3 r4, stoS y r5 r6 r7 r8] (iS2 x y) Value.none kV doc pm an (.ref cda) ct cc) (body := [supS [.Name x p4, .Name y p5] q1 q2 q3 q4 q5, stoS x r1 r2 r3 r4, stoS y r5 r6 r7 r8]) (binds := [("self", .ref (hp.objs.size + 1)), (x, v), (y, u)]) ?_ (X.keeps k _ _ lk) rfl (hlim.keeps k) (codeRec_of (X.keeps k) hcq) rfl ?_ ?_ ?_ (fun h₁ hns hk₁ => ?_) rfl rfl rfl
  · show A.depth + 1 < recursionLimit
    exact hroom
  · exact BindsTo.of_eq (hbind _ _ _ _ _ _ _ _ _ _)
  · intro y hy
    simp only [iS2, List.mem_cons, List.not_mem_nil, or_false] at hy
    rcases hy with rfl | rfl | rfl | rfl | rfl <;> intro z <;> cases z
  · intro z hz
    simp only [List.mem_cons, List.not_mem_nil, or_false] at hz
    rcases hz with rfl | rfl | rfl
    · rfl
    · exact hlx
    · exact hly
  · have keep1 : ∀ b o, hp.get? b = some o → h₁.get? b = some o := fun b o e => hk₁ b o (k b o e)
    have F1 : Fr hp ((hp.push (kdv_tup [v, u])).push (excO C hp.objs.size)).objs.size h₁ (fun z => [(("self" : Str), Value.ref (hp.objs.size + 1)), (x, v), (y, u)].reverse.lookup z) := ⟨hns, keep1, by rw [hs2]; exact Nat.le_trans (Nat.le_succ _) (Nat.le_succ _)⟩
    have xL : hp.objs.size + 1 ≠ ((hp.push (kdv_tup [v, u])).push (excO C hp.objs.size)).objs.size := by rw [hs2]; exact Nat.ne_of_lt (Nat.lt_succ_self _)
    refine sup_run (hp := hp) (x := hp.objs.size + 1) (ar := { arg := "self", annotation := none, pos := p1 }) (vs := [v, u]) T X F1 G B hmb lk lc ld lv lf (hk₁ _ _ hget) xn xL lk_s hsz1 hks hkc rfl rfl rfl (fun w' s₂ Q' E' hn hq' => ?_) rfl (S.ev _) rfl (S.sw _) fun h' t1 tk F' hx' => ?_
    · refine evalArgs_plain (Calls.spliced_cons (PySem.ESX.ldL hn lk_x (Calls.spliced_cons (PySem.ESX.ldL hn lk_y ?_ rfl hly hyd)) rfl hlx hxd))
      exact Calls.spliced_nil hq'
    · refine wpAny_execs_cons (plainObj_wpAny_Assign_Attribute ?_)
      refine PySem.ESX.ldL F'.ns lk_x (PySem.ESX.ldL F'.ns lk_s ?_) rfl hlx hxd
      have X' := X.keeps F'.keep
      refine set_plain X' (ox := excO C t1) (od := none) ⟨hx', rfl, rfl, trivial⟩ T.sa ?_
      refine exc_osa X' hx' hcd hmr hhd hno (fun h₃ tk₃ dx k₃ dn dne hx₃ hn₃ => ?_)
      have lx := Heap.lt_size hx'
      obtain ⟨oL, es, ep, hL, r⟩ := F'.ns
      have lL := Heap.lt_size hL
      have k₃' : ∀ b o, hp.get? b = some o → h₃.get? b = some o := fun b o e => k₃ b o (fun z => by rw [z, xn] at e; cases e) (F'.keep b o e)
      have F3 : Fr hp ((hp.push (kdv_tup [v, u])).push (excO C hp.objs.size)).objs.size h₃ (fun z => [(("self" : Str), Value.ref (hp.objs.size + 1)), (x, v), (y, u)].reverse.lookup z) := ⟨⟨oL, es, ep, k₃ _ _ (Ne.symm xL) hL, r⟩, k₃', F'.above⟩
      refine wpAny_execs_cons (plainObj_wpAny_Assign_Attribute ?_)
      refine PySem.ESX.ldL F3.ns lk_y (PySem.ESX.ldL F3.ns lk_s ?_) rfl hly hyd
      have X3 := X.keeps k₃'
      obtain ⟨oD, esD, epD, hoD, hdD, hcD⟩ := hn₃.count (ns := [x]) (fun f hf => by
        by_cases z : f = x
        · exact List.mem_singleton.mpr z
        · exact absurd (if_neg z) hf)
      refine set_plain X3 (ox := { cls := .ref C, dict := some dx, data := .fields #[.ref t1, .none, .none, .none, .bool false, .none] }) (od := some oD) ⟨hx₃, rfl, rfl, hoD⟩ T.sa ?_
      refine exc_osa2' (nl := [x]) T.over hcd hhd X3 hx₃ hn₃ ?_ (by show 1 ≤ 1000; decide) hno2 (fun h₄ tk₄ k₄ hn₄ => ?_)
      · intro f hf
        by_cases z : f = x
        · exact List.mem_singleton.mpr z
        · exact absurd (if_neg z) hf
      have nd : ∀ b o, hp.get? b = some o → b ≠ dx := fun b o e => Nat.ne_of_lt (Nat.lt_of_lt_of_le (Heap.lt_size (F'.keep b o e)) dn)
      refine wpAny_execs_nil ⟨rfl, hq h₄ tk₄ (hp.objs.size + 1) dx ⟨fun b o e => k₄ b o (nd b o e) (k₃' b o e), Nat.le_succ _, ⟨_, _, k₄ _ _ (Ne.symm dne) hx₃, rfl, rfl, rfl, rfl⟩, ?_, dne, hn₄⟩⟩
      exact Nat.le_trans (Nat.le_of_lt (Nat.lt_of_succ_lt lx)) dn
end
end Wh
namespace Wh
open PySem PySem.Spec PyProof.Rows L2
/-! ### the rules: X(a), X(a, b) where X is such a class -/
theorem relO_one {x : Str} {v : V} {u : Value} (r : RelV v u) (f : Str) : RelO (List.lookup f [(x, v)]) (if f = x then some u else none) := by
  by_cases h : f = x
  · subst h
    rw [if_pos rfl]
    have q : List.lookup f [(f, v)] = some v := by simp [List.lookup]
    rw [q]
    exact r
  · rw [if_neg h]
    have qb : (f == x) = false := by simpa using h
    have q : List.lookup f [(x, v)] = none := by simp [List.lookup, qb]
    rw [q]
    trivial
theorem relO_two {x y : Str} (hxy : (x == y) = false) {v z : V} {u w : Value} (r : RelV v u) (q : RelV z w) (f : Str) : RelO (List.lookup f [(x, v), (y, z)]) (if f = y then some w else if f = x then some u else none) := by
  by_cases h : f = y
  · subst h
    have e : (f == x) = false := by rw [beq_eq_false_iff_ne] at hxy ⊢; exact fun z => hxy z.symm
    have l : List.lookup f [(x, v), (f, z)] = some z := by simp [List.lookup, e]
    rw [if_pos rfl, l]
    exact q
  · rw [if_neg h]
    by_cases h2 : f = x
    · subst h2
      rw [if_pos rfl]
      have l : List.lookup f [(f, v), (y, z)] = some v := by simp [List.lookup]
      rw [l]
      exact r
    · rw [if_neg h2]
      have e1 : (f == x) = false := by simpa using h2
      have e2 : (f == y) = false := by simpa using h
      have l : List.lookup f [(x, v), (y, z)] = none := by simp [List.lookup, e1, e2]
      rw [l]
      trivial
section
variable {X : Cx} {C fI : Addr}
/-- the state behind a made error is a state of ours, the error's own dict tracked -/
theorem mkP_of {pins : List (Addr × Obj)} {σ : St} {H : Hp} {Q : XK} {hp : Heap} {g : Array GenState} {dr : Drawn} {tk : Nat} {os : OsState} {h' : Heap} {tk' : Nat} {e d : Addr} {m : Str → Option Value} {fs : List (Str × V)} (I : Inv X pins σ H ⟨hp, g, dr, tk, os⟩) (M : ErrMade hp h' e C d m) (rel : ∀ f, RelO (fs.lookup f) (m f))
    (exC : PySem.W.subIn X.K (.ref C) (.type "BaseException") = some true) (tyC : PySem.W.typeIn X.K (.ref C) = some (.type "type")) (q : H d = none → Q (.ref C) (some d) (upd H d (.xd fs))) : MkP X pins σ Q (.ref e) ⟨h', g, dr, tk', os⟩ := by
  obtain ⟨oe, fv, hoe, hc, hd, hdat, h1⟩ := M.obj
  have hns := M.ns
  obtain ⟨G', g1, g2⟩ := restrict h' fun b => decide (b ≠ e)
  have gk : ∀ b, b ≠ e → G'.get? b = h'.get? b := fun b hb => g1 b (decide_eq_true hb)
  have ge : G'.get? e = none := g2 e (by simp)
  have old : ∀ b o, hp.get? b = some o → G'.get? b = some o := fun b o q => (gk b (Nat.ne_of_lt (Nat.lt_of_lt_of_le (Heap.lt_size q) M.new))).trans (M.keep b o q)
  have ob : ObjOk X.prog X.w (upd H d (.xd fs)) G' d (.xd fs) := ⟨_, hns.at (fun o q => (gk d M.dne).trans q), rel⟩
  have J : Inv X pins σ (upd H d (.xd fs)) ⟨G', g, dr, tk', os⟩ := I.laid (t' := tk') old M.dbig ob
  refine ⟨e, oe, fv, ⟨G', g, dr, tk', os⟩, _, .ref C, some d, rfl, J, fun b o q => ?_, ge, hoe, ⟨hc, hd⟩, hdat, h1, ?_, rfl, I.bare, raises_own exC tyC, q (I.hok.fresh M.dbig)⟩
  · by_cases hb : b = e
    · have q' : G'.get? b = some o := q
      rw [hb, ge] at q'
      cases q'
    · have q' : G'.get? b = some o := q
      exact (gk b hb).symm.trans q'
  · rw [upd_ne (Ne.symm M.dne)]
    exact I.hok.fresh M.new
/-- a class of that kind as the rules take it: its name, its fields, its text -/
structure Err1 (prog : Program) (K : Fr') (mg : Str → Option Value) (nm : Str) (C : Addr) (x : Str) : Prop where
  gC : mg nm = some (.ref C)
  kC : PySem.W.keepIn K (.ref C) = true
  exC : PySem.W.subIn K (.ref C) (.type "BaseException") = some true
  tyC : PySem.W.typeIn K (.ref C) = some (.type "type")
  hxy : True
  run : ∀ {w : World} {A : Around} {R : Result → Shared → Prop} {hp : Heap} {g : Array GenState} {d : Drawn} {t : Nat} {os : OsState} {mb : Str → Option Value} {v : Value}, K.In hp → hp.Ns mainGlobals mg → hp.Ns builtinsNs mb → mb "super" = some (.type "super") → hp.NoLimit → A.depth + 1 < recursionLimit →
    (∀ h' tk e dx, ErrMade hp h' e C dx (fun y => if y = x then some v else none) → R (.ok (.ret (.ref e))) ⟨h', g, d, tk, os⟩) → codeAny (model prog w) A (.call (.ref C) ⟨[v], []⟩) R ⟨hp, g, d, t, os⟩
structure Err2 (prog : Program) (K : Fr') (mg : Str → Option Value) (nm : Str) (C : Addr) (x y : Str) : Prop where
  gC : mg nm = some (.ref C)
  kC : PySem.W.keepIn K (.ref C) = true
  exC : PySem.W.subIn K (.ref C) (.type "BaseException") = some true
  tyC : PySem.W.typeIn K (.ref C) = some (.type "type")
  hxy : (x == y) = false
  run : ∀ {w : World} {A : Around} {R : Result → Shared → Prop} {hp : Heap} {g : Array GenState} {d : Drawn} {t : Nat} {os : OsState} {mb : Str → Option Value} {v u : Value}, K.In hp → hp.Ns mainGlobals mg → hp.Ns builtinsNs mb → mb "super" = some (.type "super") → hp.NoLimit → A.depth + 1 < recursionLimit →
    (∀ h' tk e dx, ErrMade hp h' e C dx (fun z => if z = y then some u else if z = x then some v else none) → R (.ok (.ret (.ref e))) ⟨h', g, d, tk, os⟩) → codeAny (model prog w) A (.call (.ref C) ⟨[v, u], []⟩) R ⟨hp, g, d, t, os⟩
/-- C(a) -/
def tErr1 (C : Addr) (x : Str) (ta : TA) : St → Hp → XK → Prop := fun σ H Q => ta σ H fun vs H1 => ∃ v, vs = [v] ∧ ∀ d, H1 d = none → Q (.ref C) (some d) (upd H1 d (.xd [(x, v)]))
def tErr2 (C : Addr) (x y : Str) (ta : TA) : St → Hp → XK → Prop := fun σ H Q => ta σ H fun vs H1 => ∃ v u, vs = [v, u] ∧ ∀ d, H1 d = none → Q (.ref C) (some d) (upd H1 d (.xd [(x, v), (y, u)]))
theorem blts_of {pins : List (Addr × Obj)} {σ : St} {H : Hp} {s : Shared} (I : Inv X pins σ H s) : ∃ mb, s.heap.Ns builtinsNs mb ∧ mb "super" = some (.type "super") := by
  obtain ⟨mb, h1, h2⟩ := I.mod.blt
  exact ⟨mb, h1.keeps I.bk, (h2 _ (by decide)).trans (by decide +kernel)⟩
theorem pmk_err1 {nm x : Str} {a : Expr} {ta : TA} {p pos : Pos} {k : Nat} (T : Err1 X.prog X.K X.mg nm C x) (hr : Room k X.A) (ha : PA X [a] ta) (hg : Gl X nm := by rfl) (hdb : (nm == ("__debug__" : Str)) = false := by decide)
    (he : starEach (a :: []) X.env = (false, eval a X.env) :: starEach [] X.env := by rfl) (hpl : (backTo pos (starEach [] X.env)).any (·.1) = false := by rfl) :
    PMk X (.Call (.Name nm p) [a] [] pos) (tErr1 C x ta) := by
  intro pins s σ H Q I h
  refine wpAny_Call_Name_kw (ld_glob I hg T.gC ?_ hdb)
  refine PySem.W.callWith_K (h₀ := X.base) I.ok.mod.kin T.kC (thn (ha.run pos pins s σ H _ I h) fun us s1 hh => ?_) he hpl
  obtain ⟨vs, H1, I1, r1, v, ev, q1⟩ := hh
  subst ev
  refine ⟨I1.kIn, ?_⟩
  obtain ⟨v', rfl, rv⟩ := vals1 r1
  obtain ⟨mb, b1, b2⟩ := blts_of I1
  have hlim := I1.nolimit
  have hG := I1.mod.glob.keeps I1.bk
  have hK := I1.kIn
  obtain ⟨hp, g, dr, tk, os⟩ := s1
  refine wpAny_call (T.run hK hG b1 b2 hlim (by have := hr.dp; omega) fun h' tk' e d M => ?_)
  exact mkP_of I1 M (relO_one rv) T.exC T.tyC (q1 d)
theorem pmk_err2 {nm x y : Str} {a b : Expr} {ta : TA} {p pos : Pos} {k : Nat} (T : Err2 X.prog X.K X.mg nm C x y) (hr : Room k X.A) (ha : PA X [a, b] ta) (hg : Gl X nm := by rfl) (hdb : (nm == ("__debug__" : Str)) = false := by decide)
    (he : starEach (a :: [b]) X.env = (false, eval a X.env) :: starEach [b] X.env := by rfl) (hpl : (backTo pos (starEach [b] X.env)).any (·.1) = false := by rfl) :
    PMk X (.Call (.Name nm p) [a, b] [] pos) (tErr2 C x y ta) := by
  intro pins s σ H Q I h
  refine wpAny_Call_Name_kw (ld_glob I hg T.gC ?_ hdb)
  refine PySem.W.callWith_K (h₀ := X.base) I.ok.mod.kin T.kC (thn (ha.run pos pins s σ H _ I h) fun us s1 hh => ?_) he hpl
  obtain ⟨vs, H1, I1, r1, v, u, ev, q1⟩ := hh
  subst ev
  refine ⟨I1.kIn, ?_⟩
  obtain ⟨v', u', rfl, rv, ru⟩ := vals2 r1
  obtain ⟨mb, b1, b2⟩ := blts_of I1
  have hlim := I1.nolimit
  have hG := I1.mod.glob.keeps I1.bk
  have hK := I1.kIn
  obtain ⟨hp, g, dr, tk, os⟩ := s1
  refine wpAny_call (T.run hK hG b1 b2 hlim (by have := hr.dp; omega) fun h' tk' e d M => ?_)
  exact mkP_of I1 M (relO_two T.hxy rv ru) T.exC T.tyC (q1 d)
end
end Wh
namespace Wh
open PySem PySem.Spec PyProof.Rows L2 He
theorem exF_of {prog : Program} {K : Fr'} {f C : Addr} {qual file : Str} {params : Arguments} {body : List Stmt} {scope : Scope} (e : fnC K f = some (("__init__" : Str), qual, params, FuncBody.stmts body, scope, mainGlobals, [("__class__" : Str)], builtinsNs)) (h : funB K f C qual file = true) (hf : PySem.W.isFn K (.ref f) = true) (hfile : prog.main.file = file) : ExF prog K C f qual params body scope := by
  unfold fnC at e
  unfold funB at h
  cases q : K.lookup f with
  | none =>
    rw [q] at e
    cases e
  | some o =>
    obtain ⟨oc, od, dt, osl⟩ := o
    have hoc : oc = .type "function" := by
      have z : (PySem.W.typeIn K (.ref f) == some (.type "function")) = true := hf
      have z2 : PySem.W.typeIn K (.ref f) = some oc := by
        show (K.lookup f).map (·.cls) = some oc
        rw [q]
        rfl
      rw [z2] at z
      simpa using z
    subst hoc
    rw [q] at e h
    cases dt with
    | func fd =>
      obtain ⟨h1, h2⟩ := ba (show (cellB K fd.closure C && (codeB K fd.code qual file && noDf fd.defaults)) = true from h)
      obtain ⟨h2, h2d⟩ := ba h2
      obtain ⟨h3, h4⟩ := ba (show (PySem.W.codeIn K fd.code qual && _) = true from h2)
      obtain ⟨name, qualname, fparams, fbody, fscope, globals, closure, defaults, kwdefaults, doc, pyModule, annotations, code, closureTuple, builtins⟩ := fd
      simp only [Option.some.injEq, Prod.mk.injEq] at e
      obtain ⟨rfl, rfl, rfl, rfl, rfl, rfl, e7, rfl⟩ := e
      obtain ⟨cc, rfl⟩ : ∃ cc, closure = [(("__class__" : Str), cc)] := by
        cases closure with
        | nil => cases e7
        | cons a r =>
          cases r with
          | cons b r => simp at e7
          | nil =>
            obtain ⟨a1, a2⟩ := a
            simp only [List.map_cons, List.map_nil, List.cons.injEq, and_true] at e7
            exact ⟨a2, by rw [e7]⟩
      have h1' : (match K.lookup cc with
        | some ⟨_, _, .cell (some (.ref D)), _⟩ => decide (D = C)
        | _ => false) = true := h1
      cases qc : K.lookup cc with
      | none =>
        rw [qc] at h1'
        cases h1'
      | some oc' =>
        rw [qc] at h1'
        obtain ⟨cl, cld, cdt, csl⟩ := oc'
        cases cdt with
        | cell cv =>
          cases cv with
          | none => cases h1'
          | some cv =>
            cases cv with
            | ref D =>
              have eD : D = C := of_decide_eq_true h1'
              subst eD
              cases code with
              | ref c =>
                have h4' : (match K.lookup c with
                  | some ⟨_, _, .fields vs, _⟩ => (match (vs[2]? : Option Value) with
                    | some (.str f _) => decide (f = file)
                    | _ => false)
                  | _ => false) = true := h4
                cases qk : K.lookup c with
                | none =>
                  rw [qk] at h4'
                  cases h4'
                | some ok =>
                  rw [qk] at h4'
                  obtain ⟨kc, kd, kdt, ksl⟩ := ok
                  cases kdt with
                  | fields vs =>
                    have h5 : (match (vs[2]? : Option Value) with
                      | some (.str f _) => decide (f = file)
                      | _ => false) = true := h4'
                    cases q2 : vs[2]? with
                    | none =>
                      rw [q2] at h5
                      cases h5
                    | some v2 =>
                      rw [q2] at h5
                      cases v2 with
                      | str f2 tf =>
                        have ef : f2 = file := of_decide_eq_true h5
                        subst ef
                        have hdn : defaults = .none := by
                          cases defaults with
                          | none => rfl
                          | _ => cases h2d
                        subst hdn
                        exact ⟨od, kwdefaults, doc, pyModule, annotations, c, closureTuple, osl, cc, cl, cld, csl, kc, kd, vs, ksl, f2, tf, q, h3, qc, qk, q2, by rw [hfile]; exact beq_self_eq_true _⟩
                      | _ => cases h5
                  | _ => cases h4'
              | _ => cases h4
            | _ => cases h1'
        | _ => cases h1'
    | _ => cases e
/-- what the hook says of a class, as the rules want it -/
theorem exK_of {prog : Program} {K : Fr'} {mg : Str → Option Value} {d : ExD} {file : Str} (h : excB K d file = true) (opq : PySem.W.nsIn K cStatics "thirdparty.any" = some none) (gs : mg "super" = none) (noS : (prog.main.scope.names.lookup ("super" : Str)).isSome = false) :
    ExK prog K mg (ga K d.cls) (iniA K d.cls) ∧ PySem.W.keepIn K (.ref (ga K d.cls)) = true ∧ PySem.W.subIn K (.ref (ga K d.cls)) (.type "BaseException") = some true ∧ PySem.W.typeIn K (.ref (ga K d.cls)) = some (.type "type") ∧ (∀ f ∈ d.fields, PySem.W.findIn K (.ref (ga K d.cls)) f = some none) ∧ funB K (iniA K d.cls) (ga K d.cls) d.qual file = true ∧ excC K d.cls = true := by
  obtain ⟨a1, h⟩ := ba h
  obtain ⟨a2, h⟩ := ba h
  obtain ⟨a3, h⟩ := ba h
  obtain ⟨a4, h⟩ := ba h
  obtain ⟨a5, h⟩ := ba h
  obtain ⟨a6, h⟩ := ba h
  obtain ⟨a7, h⟩ := ba h
  obtain ⟨a8, h⟩ := ba h
  obtain ⟨a9, h⟩ := ba h
  obtain ⟨a10, h⟩ := ba h
  obtain ⟨a11, h⟩ := ba h
  obtain ⟨a12, a13⟩ := ba h
  obtain ⟨c1, hc⟩ := ba a12
  obtain ⟨c2, hc⟩ := ba hc
  obtain ⟨c3, hc⟩ := ba hc
  obtain ⟨c4, hc⟩ := ba hc
  have hm : ∃ cd, PySem.W.clsIn K (ga K d.cls) = some cd ∧ HandSPX.refsVE cd.mro = true ∧ cd.hasDict = true := by
    obtain ⟨cd, hcd, hov⟩ := PySem.W.any_some (show (PySem.W.clsIn K (ga K d.cls)).any _ = true from a2)
    obtain ⟨cd', hcd', hhd⟩ := PySem.W.any_some (show (PySem.W.clsIn K (ga K d.cls)).any _ = true from c4)
    rw [hcd] at hcd'
    cases hcd'
    refine ⟨cd, hcd, ?_, hhd⟩
    have hov : (match cd.mro with | .ref C' :: bm => C' == ga K d.cls && PySem.W.excTail veBase bm | _ => false) = true := hov
    split at hov
    · rename_i C' bm e
      rw [e]
      obtain ⟨_, q⟩ := ba hov
      have all : ∀ l : List Value, PySem.W.excTail veBase l = true → HandSPX.refsVE l = true := by
        intro l
        induction l with
        | nil => intro z; exact absurd z (by decide)
        | cons a r ih =>
          intro z
          rcases PySem.W.excTail_cases (a :: r) z with ⟨c, r', q1, q2⟩ | q1
          · obtain ⟨rfl, rfl⟩ := List.cons.inj q1
            exact ih q2
          · rw [q1]
            decide
      exact all bm q
    · cases hov
  exact ⟨⟨a1, a2, hm, eqO_ok a3, a4, eqO_ok a6, of_decide_eq_true a7, of_decide_eq_true a9, eqO_ok a10, opq, gs, noS⟩, a5, c3 |> of_decide_eq_true, of_decide_eq_true a8, fun f hf => eqO_ok (List.all_eq_true.mp a11 f hf), a13, a12⟩
theorem err1_of {prog : Program} {K : Fr'} {mg : Str → Option Value} {d : ExD} {file x : Str} {p1 p2 p3 q1 q2 q3 q4 q5 r1 r2 r3 r4 : Pos} (g : mg d.cls = some (.ref (ga K d.cls))) (h : excB K d file = true) (ev : fnC K (iniA K d.cls) = d.val) (opq : PySem.W.nsIn K cStatics "thirdparty.any" = some none) (gs : mg "super" = none) (noS : (prog.main.scope.names.lookup ("super" : Str)).isSome = false) (hfile : prog.main.file = file)
    (e1 : d.fields = [x]) (e2 : d.params = iA1 x p1 p2) (e3 : d.body = [supS [.Name x p3] q1 q2 q3 q4 q5, stoS x r1 r2 r3 r4]) (e4 : d.scope = iS1 x) (S : SupT [.Name x p3] q1 q2 q3 q4 q5)
    (hbind : ∀ (kV doc pm : Value) (an : Option Addr) (cda : Addr) (ct : Value) (cc : Addr) (a b : Value), bindArgs (PySem.W.ksFn "__init__" d.qual (iA1 x p1 p2) [supS [.Name x p3] q1 q2 q3 q4 q5, stoS x r1 r2 r3 r4] (iS1 x) .none kV doc pm an (.ref cda) ct cc) ⟨[a, b], []⟩ = pure [(("self" : Str), a), (x, b)])
    (hxs : (("self" : Str) == x) = false := by decide) (hxc : (x == ("__class__" : Str)) = false := by decide) (hxp : (x == ("super" : Str)) = false := by decide) (hxd : (x == ("__debug__" : Str)) = false := by decide) : Err1 prog K mg d.cls (ga K d.cls) x := by
  obtain ⟨T, k, b, t, no, fb, _⟩ := exK_of (prog := prog) h opq gs noS
  obtain ⟨cls, qual, fields, params, body, scope⟩ := d
  dsimp only at e1 e2 e3 e4
  subst e1 e2 e3 e4
  have hF := exF_of (prog := prog) ev fb T.fn hfile
  exact ⟨g, k, b, t, trivial, fun X G B hmb hl hr hq => made1 T hF S hbind (no x (List.mem_cons_self ..)) hxs hxc hxp hxd X G B hmb hl hr hq⟩
theorem err2_of {prog : Program} {K : Fr'} {mg : Str → Option Value} {d : ExD} {file x y : Str} {p1 p2 p3 p4 p5 q1 q2 q3 q4 q5 r1 r2 r3 r4 r5 r6 r7 r8 : Pos} (g : mg d.cls = some (.ref (ga K d.cls))) (h : excB K d file = true) (ev : fnC K (iniA K d.cls) = d.val) (opq : PySem.W.nsIn K cStatics "thirdparty.any" = some none) (gs : mg "super" = none) (noS : (prog.main.scope.names.lookup ("super" : Str)).isSome = false) (hfile : prog.main.file = file)
    (e1 : d.fields = [x, y]) (e2 : d.params = iA2 x y p1 p2 p3) (e3 : d.body = [supS [.Name x p4, .Name y p5] q1 q2 q3 q4 q5, stoS x r1 r2 r3 r4, stoS y r5 r6 r7 r8]) (e4 : d.scope = iS2 x y) (S : SupT [.Name x p4, .Name y p5] q1 q2 q3 q4 q5)
    (hbind : ∀ (kV doc pm : Value) (an : Option Addr) (cda : Addr) (ct : Value) (cc : Addr) (a b c : Value), bindArgs (PySem.W.ksFn "__init__" d.qual (iA2 x y p1 p2 p3) [supS [.Name x p4, .Name y p5] q1 q2 q3 q4 q5, stoS x r1 r2 r3 r4, stoS y r5 r6 r7 r8] (iS2 x y) .none kV doc pm an (.ref cda) ct cc) ⟨[a, b, c], []⟩ = pure [(("self" : Str), a), (x, b), (y, c)])
    (hlx : (iS2 x y).names.lookup x = some .local) (hly : (iS2 x y).names.lookup y = some .local) (hks : (iS2 x y).names.lookup ("super" : Str) = some .globalImplicit) (hkc : (iS2 x y).names.lookup ("__class__" : Str) = some .free)
    (hxs : (("self" : Str) == x) = false := by decide) (hys : (("self" : Str) == y) = false := by decide) (hxy : (x == y) = false := by decide) (hxd : (x == ("__debug__" : Str)) = false := by decide) (hyd : (y == ("__debug__" : Str)) = false := by decide) : Err2 prog K mg d.cls (ga K d.cls) x y := by
  obtain ⟨T, k, b, t, no, fb, _⟩ := exK_of (prog := prog) h opq gs noS
  obtain ⟨cls, qual, fields, params, body, scope⟩ := d
  dsimp only at e1 e2 e3 e4
  subst e1 e2 e3 e4
  have hF := exF_of (prog := prog) ev fb T.fn hfile
  exact ⟨g, k, b, t, hxy, fun X G B hmb hl hr hq => made2 T hF S hbind (no x (List.mem_cons_self ..)) (no y (List.mem_cons_of_mem _ (List.mem_cons_self ..))) hxs hys hxy hxd hyd hlx hly hks hkc X G B hmb hl hr hq⟩
end Wh
/-! ## WhHeard -/
set_option Elab.async false
set_option linter.all false
set_option maxRecDepth 100000
set_option maxHeartbeats 4000000
/-! A caught error kept beyond its clause: isinstance of it, its fields. -/
namespace Wh
open PySem PySem.Spec PyProof.Rows L2 He
/-- the error object at a: of the class at C, its own dict at dx -/
def ErrO (a C dx : Addr) : HO := .ext fun h => ∃ (oe : Obj) (vs : Array Value), h.get? a = some oe ∧ Zc (.ref C) (some dx) oe ∧ oe.data = .fields vs
theorem errO_ok {P : Program} {w : World} {H : Hp} {h : Heap} {a C dx : Addr} {oe : Obj} {vs : Array Value} (e : h.get? a = some oe) (z : Zc (.ref C) (some dx) oe) (d : oe.data = .fields vs) : ObjOk P w H h a (ErrO a C dx) :=
  ⟨⟨oe, vs, e, z, d⟩, ⟨oe, e⟩, fun _ _ ⟨o, v, q, r⟩ k => ⟨o, v, k o q, r⟩⟩
section
variable {X : Cx} {pins : List (Addr × Obj)} {σ : St} {H : Hp} {s : Shared}
/-- what stood untracked and is ours is tracked from here on -/
theorem track_of {a : Addr} {o : HO} {oe : Obj} {vs : Array Value} (I : Inv X pins σ H s) (hx : X.ex = []) (h0 : X.s_0.heap.get? a = none) (hL : a ≠ X.env.locals) (hn : H a = none) (he : s.heap.get? a = some oe) (hd : oe.data = .fields vs) (hp : ∀ p ∈ X.pn ++ pins, p.1 ≠ a)
    (new : ObjOk X.prog X.w (upd H a o) s.heap a o) : Inv X pins σ (upd H a o) s := by
  have ne : ∀ b u, H b = some u → b ≠ a := fun b u e => ne_of_none e hn
  refine ⟨I.ok, I.os, I.bare, ⟨I.base.keep, I.base.slot, fun b u q n hb => ?_, I.base.there, fun b xs q => ?_, fun b u xs q => ?_, fun b ps q => ?_⟩, I.loc, I.cell, ?_, fun y c e => ?_, fun p q => ?_, I.hok.laidN (fun _ _ q => q) hn new, I.len⟩
  · rw [upd_ne (fun z => by rw [z, h0] at q; cases q)]
    exact I.base.free b u q n hb
  · have z := I.base.tups b xs q
    rw [upd_ne (ne _ _ z)]
    exact z
  · have z := I.base.frzs b u xs q
    rw [upd_ne (ne _ _ z)]
    exact z
  · obtain ⟨more, z⟩ := I.base.tbls b ps q
    exact ⟨more, by rw [upd_ne (ne _ _ z)]; exact z⟩
  · rw [upd_ne hL.symm]
    exact I.free
  · have z : c ≠ a := fun z => by
      obtain ⟨v, oc, ho, hc⟩ := I.cell y c e
      rw [z, he] at ho
      cases ho
      rw [hd] at hc
      cases hc
    rw [upd_ne z]
    exact I.freeC y c e
  · obtain ⟨h1, h2, h3⟩ := I.pin p q
    exact ⟨h1, by rw [upd_ne (hp p q)]; exact h2, h3⟩
end
/-! ### isinstance(e, C), e.f of a kept error -/
theorem excC_ok {K : Fr'} {x : Str} (h : excC K x = true) : ExcC K (ga K x) := by
  obtain ⟨c1, h⟩ := ba h
  obtain ⟨c2, h⟩ := ba h
  obtain ⟨c3, h⟩ := ba h
  obtain ⟨c4, h⟩ := ba h
  obtain ⟨c5, c6⟩ := ba h
  exact ⟨eqO_ok c1, eqO_ok c2, of_decide_eq_true c3, c4, eqO_ok c5, by kernel_rfl, by kernel_rfl, of_decide_eq_true c6⟩
def rIsErr (K : Fr') : List V → Hp → VK → Prop := fun xs H Q => ∃ (a C dx : Addr) (fs : List (Str × V)) (c : V) (cv : Value) (b : Bool), xs = [.ref a, c] ∧ H a = some (ErrO a C dx) ∧ H dx = some (.xd fs) ∧ ExcC K C ∧ ClsV c cv ∧ PySem.W.kitOne K (.ref C) cv = some b ∧ Q (.bl b) H
section
variable {X : Cx} {pins : List (Addr × Obj)} {σ : St} {H : Hp} {s : Shared}
theorem err_inst {a C dx : Addr} {fs : List (Str × V)} (I : Inv X pins σ H s) (ha : H a = some (ErrO a C dx)) (hd : H dx = some (.xd fs)) : ∃ (oe od : Obj) (mA : Str → Option Value), PySem.W.InstAt s.heap a oe C (some od) ∧ (∀ name, PySem.W.lookIn name od = some (mA name)) ∧ ∀ f, RelO (fs.lookup f) (mA f) := by
  obtain ⟨⟨oe, vs, e1, z, e2⟩, _, _⟩ := I.hok a _ ha
  obtain ⟨mA, hns, hr⟩ := I.hok dx _ hd
  obtain ⟨od, ho, hl⟩ := lookIn_ns hns
  exact ⟨oe, od, mA, ⟨e1, z.1, by unfold PySem.W.notCls; rw [e2] <;> rfl, by rw [z.2]; exact ho⟩, hl, hr⟩
theorem call_isErr : CallR X (.builtin "isinstance") (rIsErr X.K) := by
  intro pins s σ H xs us Q I r h
  obtain ⟨a, C, dx, fs, c, cv, b, rfl, ha, hd, T, hc, e, q⟩ := h
  obtain ⟨u1, u2, rfl, r1, r2⟩ := vals2 r
  cases r1
  obtain rfl := hc.eq r2
  obtain ⟨oe, od, mA, J, _, _⟩ := err_inst I ha hd
  obtain ⟨cd, hcd, _⟩ := PySem.W.any_some T.hd
  exact PySem.W.kia_one (PySem.W.kitx_exc (by rw [hcd]; rfl) T.hg T.hk T.hs T.ha T.hn T.ht T.hm) I.kIn J e (fun z => nomatch z) fun tk => ⟨.bl b, H, I.kept (t' := tk) fun _ _ z => z, rfl, q⟩
/-- e.f -/
def tErrF (K : Fr') (f : Str) (te : TE) : TE := fun σ H Q => te σ H fun x H1 => ∃ (a C dx : Addr) (fs : List (Str × V)) (v : V), x = .ref a ∧ H1 a = some (ErrO a C dx) ∧ H1 dx = some (.xd fs) ∧ ExcC K C ∧ PySem.W.findIn K (.ref C) f = some none ∧ fs.lookup f = some v ∧ Q v H1
theorem pe_errf {e : Expr} {te : TE} {pos : Pos} {n : Str} (he : PE X e te) (hb : attributeBase e n X.env (eval e X.env) = eval e X.env := by rfl) : PE X (.Attribute e n pos) (tErrF X.K n te) := by
  refine ⟨fun pins s σ H Q I h => ?_⟩
  refine attr_of hb (thn (he.run pins s σ H _ I h) fun u s1 hh => ?_)
  obtain ⟨x, H1, I1, rx, a, C, dx, fs, v, ex, ha, hd, T, hno, l, q⟩ := hh
  subst ex
  obtain rfl : u = Value.ref a := rx
  obtain ⟨oe, od, mA, J, hl, hr⟩ := err_inst I1 ha hd
  obtain ⟨u, hu, ru⟩ := RelO.some_of (v := v) (o := mA n) (by rw [← l]; exact hr n)
  exact HandSPX.exc_get I1.kIn J T.hg T.hk T.hs (PySem.W.findObj_own T.hd hno rfl (by rw [hl, hu])) (handed_of ru) ⟨v, H1, I1.tok _, ru, q⟩
end
/-! ### try: body / except X as n: suite, the error kept behind -/
/-- what the clause wishes of an error of the body: slot i is n's -/
def wKeep (K : Fr') (n : Nat) (c : Value) (i : Nat) (ts : TS) (D : Ends) : WX := fun cls d σ H =>
  PySem.W.exmOne K cls c = some true ∧ ∃ C dx, cls = .ref C ∧ d = some dx ∧ (σ.length = n → ∀ a, H a = none → ts { nx := fun σ' H' => H' a = none → D.nx (σ'.set i none) (upd H' a (ErrO a C dx)), rt := fun _ _ => False } (σ.set i (some (.ref a))) H)
section
variable {X : Cx} {x n : Str} {c : Value} {i : Nat} {body suite : List Stmt} {b₀ : Stmt} {np pos pos' : Pos} {tb : WX → TS} {ts : TS}
theorem ps_try_keep (hs : X.stack = X.env :: X.outer) (hf : X.env.frame = some X.env.locals) (hex : X.ex = []) (hN : X.N.Nodup) (hi : X.N[i]? = some n) (hln : X.env.kindOf n = some .local) (hc : Names X x c)
    (hb : ∀ (W : WX) (pn : List (Addr × Obj)) (xe : Value → Shared → Prop), Takes (X.tr pn xe) W → PassesOwn (model X.prog X.w) X.A X.env xe → PSs (X.tr pn xe) body (tb W))
    (hsu : ∀ (a : Addr) (pn : List (Addr × Obj)), PSs (X.suite a pn) (b₀ :: suite) ts) :
    PS X (.Try body [.ExceptHandler (some (.Name x np)) (some n) (b₀ :: suite) pos'] [] [] pos) (fun D σ H => tb (wKeep X.K X.N.length c i ts D) D σ H) := by
  refine ⟨fun pins s σ H D I h => ?_⟩
  have ok := I.ok
  have hfr : X.A.frames = some (X.env :: X.outer) := by rw [ok.frames, hs]
  have hloc : Loc X.env.scope n := .inl hln
  refine wpAny_Try_except ?_
  refine wpAny_mono ((hb (wKeep X.K X.N.length c i ts D) (X.pn ++ pins) (fun e s₁ => wpAny (model X.prog X.w) X.A (noteFrame e X.env) (fun _ s₂ => wpAny (model X.prog X.w) X.A (setFlight e none) (fun _ s₃ =>
    wpAny (model X.prog X.w) X.A (handleBy e X.env [.ExceptHandler (some (.Name x np)) (some n) (b₀ :: suite) pos']) (SP X pins D) X.xe s₃) X.xe s₂) X.xe s₁) (fun u s' xx => ?_) PassesOwn.looking).run [] s σ H D (I.toTry _) h) (fun f s1 hsp => ?_) (fun e s1 he => he)
  · obtain ⟨a, B, sI, pins', σ', H', cls, d, rfl, J', nb, up, sky, na, os, ag, hb1, C, dx, rfl, rfl, hyes⟩ := xx
    have J : Inv X pins σ' H' sI := J'.ofTry ok
    have sky' : Sky B (X.env :: X.outer) a (Zc (.ref C) (some dx)) X.env.locals s'.heap := by rw [← hs]; exact sky
    show wpAny (model X.prog X.w) X.A (noteFrame (.ref a) X.env) _ _ _
    refine Sky.land Zc.steady hfr hf sky' fun h3 fl3 up3 => ?_
    have J3 : Inv X pins σ' H' { s' with heap := h3 } := J.landed nb fl3.1 (up.trans up3) os ag
    obtain ⟨oe3, vs3, he3, hz3, hd3⟩ := fl3.there
    have nfr : a ∉ frs (X.env :: X.outer) := fun hm => by
      obtain ⟨_, o', e', hnf⟩ := fl3.2.2.1.mem hm
      rw [he3] at e'
      cases e'
      exact hnf _ hd3
    have nL : a ≠ X.env.locals := fun z => nfr (List.mem_filterMap.mpr ⟨X.env, List.mem_cons_self, by rw [hf, z]⟩)
    have nF : a ∉ X.fs := fun hm => by
      obtain ⟨e, he, q⟩ := List.mem_filterMap.mp hm
      exact nfr (List.mem_filterMap.mpr ⟨e, List.mem_cons_of_mem _ he, q⟩)
    have aI : sI.heap.get? a = none := by
      cases q : sI.heap.get? a with
      | none => rfl
      | some o =>
        have z := nb a o q (by rw [hs]; exact nfr)
        rw [fl3.2.1] at z
        cases z
    have a0 : X.s_0.heap.get? a = none := by
      cases q : X.s_0.heap.get? a with
      | none => rfl
      | some o =>
        obtain ⟨o', z⟩ := J.base.there a o q (by rw [hex]; simp)
        rw [aI] at z
        cases z
    have aP : ∀ p ∈ X.pn ++ pins, p.1 ≠ a := fun p hp z => by
      have q := (J.pin p hp).1
      rw [z, aI] at q
      cases q
    have S3 := J3.suite he3 hd3 na nL nF
    refine wpAny_handleBy_cons (codeAny_handlers_test ?_) (by intro q; cases q)
    have LT : PySem.W.Looks (model X.prog X.w) h3 (typeOf (.ref a)) (.ref C) := fun A Q E s k q => wpAny_typeOf_ref (k _ _ he3) (by rw [hz3.1]; exact q)
    have LM := PySem.W.exm_one (M := model X.prog X.w) (J3.kIn) LT hb1
    have test : ∀ {Q : Value → Shared → Prop} {E : Value → Shared → Prop}, Q c { s' with heap := h3 } → wpAny (model X.prog X.w) (X.A.mark (some (.ref a))) (eval (.Name x np) X.env) Q E { s' with heap := h3 } := fun {Q E} q => by
      obtain ⟨hg, hdbg, hm | ⟨hm, hv, hnn⟩⟩ := hc
      · exact ld_glob (X := X.suite a ((a, oe3) :: (X.pn ++ pins))) S3 hg hm q hdbg
      · exact ld_blt (X := X.suite a ((a, oe3) :: (X.pn ++ pins))) S3 hg hm hv q hnn hdbg
    refine test (LM.here ?_)
    refine codeAny_handlers_suite_as ?_
    refine HandSPX.lands_againZ fl3 fun h4 fl4 up4 => ?_
    have J4 : Inv X pins σ' H' { s' with heap := h4 } := J.landed nb fl4.1 ((up.trans up3).trans up4) os ag
    obtain ⟨oe4, vs4, he4, hz4, hd4⟩ := fl4.there
    have S4 := J4.suite he4 hd4 na nL nF
    refine store_ok (X := X.suite a ((a, oe4) :: (X.pn ++ pins))) (v := .ref a) S4 hN hi hloc rfl (fun s5 S5 => ?_) (.inr hln)
    refine wpAny_mono ((hsu a ((a, oe4) :: (X.pn ++ pins))).run [] s5 _ H' _ S5 (hyes J'.len a na)) (fun f s6 hsp => ?_) (fun _ _ z => False.elim z)
    cases f with
    | next =>
      obtain ⟨σ6, H6, S6, q6⟩ := hsp
      obtain ⟨p1, p2, _⟩ := S6.pin (a, oe4) (List.mem_append.mpr (.inl List.mem_cons_self))
      have J6 : Inv X ((a, oe4) :: pins) σ6 H6 s6 := (S6.unsuite (pins := pins) ok).pins_of fun p hp => by
        have hp' : p ∈ (X.suite a ((a, oe4) :: (X.pn ++ pins))).pn ++ [] := by
          rw [List.append_nil]
          rcases List.mem_cons.mp hp with e | e
          · exact List.mem_cons.mpr (.inl e)
          · exact List.mem_cons_of_mem _ (List.mem_append_right _ e)
        exact S6.pin p hp'
      refine gone_ok J6 hN hi hln fun s7 J7 => ?_
      · obtain ⟨r1, r2, _⟩ := J7.pin (a, oe4) (List.mem_append_right _ List.mem_cons_self)
        have J8 : Inv X pins (σ6.set i none) H6 s7 := J7.pins_of fun p hp => J7.pin p (List.mem_append_right _ (List.mem_cons_of_mem _ hp))
        exact ⟨_, _, track_of J8 hex a0 nL r2 r1 hd4 aP (errO_ok r1 hz4 hd4), q6 r2⟩
    | brk =>
      obtain ⟨σ6, H6, S6, q6⟩ := hsp
      exact False.elim q6
    | cont =>
      obtain ⟨σ6, H6, S6, q6⟩ := hsp
      exact False.elim q6
    | ret u =>
      obtain ⟨v6, σ6, H6, S6, r6, q6⟩ := hsp
      exact False.elim q6
  · cases f with
    | next =>
      obtain ⟨σ', H', J', q⟩ := hsp
      exact wpAny_execs_nil ⟨σ', H', J'.ofTry ok, q⟩
    | brk =>
      obtain ⟨σ', H', J', q⟩ := hsp
      exact ⟨σ', H', J'.ofTry ok, q⟩
    | cont =>
      obtain ⟨σ', H', J', q⟩ := hsp
      exact ⟨σ', H', J'.ofTry ok, q⟩
    | ret u =>
      obtain ⟨v, σ', H', J', r, q⟩ := hsp
      exact ⟨v, σ', H', J'.ofTry ok, r, q⟩
end
end Wh
/-! ### the errors that a law tells apart -/
namespace Wh
open PySem PySem.Spec PyProof.Rows L2 He
inductive EK where
  | text | many | word | name | nothing | value | line | number | rows | relation | sender | hearer | paper | misfit
  deriving DecidableEq
def EK.cls : EK → Str
  | .text => "BadText" | .many => "TooMany" | .word => "BadWord" | .name => "NoName" | .nothing => "Nothing" | .value => "BadValue" | .line => "BadLine" | .number => "BadNumber"
  | .rows => "BadRows" | .relation => "BadRelation" | .sender => "BadSender" | .hearer => "BadHearer" | .paper => "BadPaper" | .misfit => "Misfit"
def EK.tag : EK → Str
  | .text => "text" | .many => "many" | .word => "word" | .name => "name" | .nothing => "nothing" | .value => "value" | .line => "line" | .number => "number"
  | .rows => "rows" | .relation => "relation" | .sender => "sender" | .hearer => "hearer" | .paper => "paper" | .misfit => "misfit"
def EK.fields : EK → List Str
  | .text => ["line", "word"] | .many => ["what", "most"] | .word => ["word"] | .name => ["name"] | .nothing => ["what"] | _ => ["part"]
def EK.all : List EK := [.text, .many, .word, .name, .nothing, .value, .line, .number, .rows, .relation, .sender, .hearer, .paper, .misfit]
/-- the class of a kind -/
abbrev EC (K : Fr') (k : EK) : Addr := ga K k.cls
structure HeardK (K : Fr') (mg : Str → Option Value) (ks : List EK) : Prop where
  g : ∀ k : EK, mg k.cls = some (.ref (EC K k))
  s : mg "SendError" = some (.ref (ga K "SendError"))
  isi : mg "isinstance" = none
  exm : ∀ k ∈ ks, PySem.W.exmOne K (.ref (EC K k)) (.ref (ga K "SendError")) = some true
  kit : ∀ k ∈ ks, ∀ j : EK, PySem.W.kitOne K (.ref (EC K k)) (.ref (EC K j)) = some (decide (k = j))
  exc : ∀ k ∈ ks, ExcC K (EC K k)
  no : ∀ k ∈ ks, ∀ f ∈ k.fields, PySem.W.findIn K (.ref (EC K k)) f = some none
/-- what the helper tells of an error of this kind with these fields -/
def EK.told (k : EK) (fs : List (Str × V)) : Option (List V) := (k.fields.mapM fun f => fs.lookup f).map fun l => V.str k.tag :: l
/-- what the helper makes of a lambda's reading -/
def THeard (K : Fr') (ks : List EK) : (XK → Hp → VK → Prop) → Hp → VK → Prop := fun tl H Q => ∀ H1, Evl.Ex H H1 → ∀ Kn : VK, (∀ v H', (∀ p H'', Evl.Ex H' H'' → H' p = none → H'' p = some (.lst [v]) → Q (.ref p) H'') → Kn v H') →
  tl (fun cls d H' => ∃ (k : EK) (dd : Addr) (fs : List (Str × V)) (vs : List V), k ∈ ks ∧ cls = .ref (EC K k) ∧ d = some dd ∧ H' dd = some (.xd fs) ∧ k.told fs = some vs ∧ ∀ p H'', Evl.Ex H' H'' → H' p = none → H'' p = some (.tup vs) → Q (.ref p) H'') H1 Kn
theorem told1 {k : EK} {f : Str} {fs : List (Str × V)} {vs : List V} (e : k.fields = [f]) (h : k.told fs = some vs) : ∃ v, fs.lookup f = some v ∧ vs = [.str k.tag, v] := by
  unfold EK.told at h
  rw [e] at h
  cases q : fs.lookup f with
  | none => simp [List.mapM_cons, q] at h
  | some v => exact ⟨v, rfl, by simpa [List.mapM_cons, q] using h.symm⟩
theorem told2 {k : EK} {f g : Str} {fs : List (Str × V)} {vs : List V} (e : k.fields = [f, g]) (h : k.told fs = some vs) : ∃ v u, fs.lookup f = some v ∧ fs.lookup g = some u ∧ vs = [.str k.tag, v, u] := by
  unfold EK.told at h
  rw [e] at h
  cases q : fs.lookup f with
  | none => simp [List.mapM_cons, q] at h
  | some v =>
    cases q2 : fs.lookup g with
    | none => simp [List.mapM_cons, q, q2] at h
    | some u => exact ⟨v, u, rfl, rfl, by simpa [List.mapM_cons, q, q2] using h.symm⟩
theorem before_of {l : List V} {y : V} {j : Nat} (h : ((l.take j).all fun z => eqV z y == false) = true) : ∀ (m : Nat) (z' : V), m < j → l[m]? = some z' → eqV z' y = false := fun m z' hm e => by
  have q : (l.take j)[m]? = some z' := by rw [List.getElem?_take_of_lt hm]; exact e
  exact beq_iff_eq.mp (List.all_eq_true.mp h z' (List.mem_of_getElem? q))
section
variable {X : Cx} {K : Fr'} {mg : Str → Option Value} {ks : List EK}
theorem pe_ek (F : HeardK K mg ks) (k : EK) {p : Pos} (e1 : X.mg = mg) (hg : Gl X k.cls) (hd : (k.cls == ("__debug__" : Str)) = false := by cases k <;> decide) : PE X (.Name k.cls p) (tC (.ref (EC K k))) := pe_glob hg (by rw [e1]; exact F.g k) rfl hd
/-- isinstance(e, C), the reading with the class's value -/
theorem pe_isk (F : HeardK K mg ks) (k : EK) {e : Expr} {te : TE} {p p2 pos : Pos} {nm : Str} (hn : nm = k.cls) (e1 : X.mg = mg) (e2 : X.K = K) (he : PE X e te) (hg : Gl X nm) (hgi : Gl X "isinstance") (hs : starEach (e :: [.Name nm p2]) X.env = (false, eval e X.env) :: starEach [.Name nm p2] X.env := by rfl) (hs2 : starEach (.Name nm p2 :: []) X.env = (false, eval (.Name nm p2) X.env) :: starEach [] X.env := by rfl) :
    PE X (.Call (.Name "isinstance" p) [e, .Name nm p2] [] pos) (tCB (rIsErr K) (tCons te (tCons (tC (.ref (EC K k))) tNil))) := by
  subst hn e2
  exact pe_callB call_isErr hgi (by rw [e1]; exact F.isi) (by decide +kernel) (pa_cons he (pa_cons (pe_ek F k e1 hg) pa_nil hs2) hs) (he := hs)
end
end Wh
/-! ## WhLam -/
set_option Elab.async false
set_option linter.all false
set_option maxRecDepth 100000
set_option maxHeartbeats 4000000
/-! Lambdas handed to a def: without parameters, or with one that has a written int for its default. -/
namespace Wh
open PySem PySem.Spec PyProof.Rows L2 He LamX PySem.W PySem.Calls
/-- the function object of such a lambda, its defaults dV -/
abbrev lamFn (qual : Str) (params : Arguments) (body : Expr) (scope : Scope) (cl : List (Str × Addr)) (dV pm cdv ct : Value) : FuncData :=
  { name := "<lambda>", qualname := qual, params := params, body := .expr body, scope := scope, globals := mainGlobals, closure := cl, defaults := dV, kwdefaults := .none, doc := .none, pyModule := pm, annotations := none, code := cdv, closureTuple := ct, builtins := builtinsNs }
abbrev lamOb (qual : Str) (params : Arguments) (body : Expr) (scope : Scope) (cl : List (Str × Addr)) (dV pm cdv ct : Value) : Obj := { cls := .type "function", data := .func (lamFn qual params body scope cl dV pm cdv ct) }
section
variable {M : Model} {A : Around} {E : Value → Shared → Prop} {s : Shared} {qual : Str} {params : Arguments} {body : Expr} {scope : Scope} {env : Env} {c P : Addr} {ps : Array Value} {pos : Pos} {firstLine : Nat} {mg : Str → Option Value} {clos : List (Str × Addr)} {Q : Value → Shared → Prop} {dV : Value}
/-- the lambda is laid, its code object is new -/
theorem lam_tail (hcl : closureFor scope env = pure clos) (hge : env.globals = mainGlobals) (hg : s.heap.Ns mainGlobals mg) (hcode : env.code = .ref c) (C : CodeHd s.heap c P) (hP : s.heap.get? P = some (tabObj ps)) (ht : TriplesOk ps.toList) (hnf : codeAmong pos ps.toList = none) (hgP : mainGlobals ≠ P) (hb : s.heap.BuiltinsAt mg P)
    (h : ∀ c' ctv h' tk, Heap.ExtBut P s.heap h' → s.heap.objs.size ≤ c' → c' < h'.objs.size → h'.CodeRec (.ref c') qual → h'.get? P = some (tabObj (ps ++ #[rawInt pos.line, rawInt pos.col, .ref c'])) →
      Q (.ref h'.objs.size) { s with heap := h'.push (lamOb qual params body scope clos dV ((mg "__name__").getD .none) (.ref c') ctv), toks := tk }) :
    wpAny M A (makeTail "<lambda>" qual params (.expr body) scope env dV .none none pos firstLine) Q E s := by
  obtain ⟨bm, ob, b1, b2, _, b3, b4, b5, b6, b7⟩ := hb
  unfold makeTail
  rw [hcl, hge]
  refine wpAny_bind (wpAny_pure ?_)
  have size1 : ∀ oT : Obj, s.heap.objs.size ≤ (s.heap.push oT).objs.size := fun oT => by rw [Heap.size_push]; omega
  cases clos with
  | nil =>
    simp only [List.isEmpty_nil, if_true]
    refine wpAny_bind (wpAny_pure (wpAny_bind (wpAny_functionCodeX hcode (C.code hP ht) (C.tab hP) hnf fun c' h' tk hx hge1 hlt _ hrec htb _ => ?_)))
    have hg1 := hg.extBut hx hgP
    exact wpAny_bind (wpAny_builtinsFor hg1 b1 b2 (hx _ _ b3 b4) b5 b6 b7 (wpAny_bind (wpAny_nsGet hg1 (wpAny_bind (wpAny_pure (wpAny_newObj_type (h c' .none h' tk hx hge1 hlt hrec htb.2) (by size_fits)))))))
  | cons q r =>
    simp only [List.isEmpty_cons, Bool.false_eq_true, if_false]
    refine wpAny_bind (wpAny_newTextTuple (wpAny_bind (wpAny_functionCodeX hcode ((C.keeps fun b o e => Heap.get?_push_of_some _ e).code (Heap.get?_push_of_some _ hP) ht) ((C.keeps fun b o e => Heap.get?_push_of_some _ e).tab (Heap.get?_push_of_some _ hP)) hnf fun c' h' tk hx hge1 hlt _ hrec htb _ => ?_)))
    have hg1 := (hg.push _).extBut hx hgP
    have hx1 : Heap.ExtBut P s.heap h' := fun b o hb1 e => hx b o hb1 (Heap.get?_push_of_some _ e)
    exact wpAny_bind (wpAny_builtinsFor hg1 b1 b2 (hx1 _ _ b3 b4) b5 b6 b7 (wpAny_bind (wpAny_nsGet hg1 (wpAny_bind (wpAny_pure (wpAny_newObj_type (h c' _ h' tk hx1 (Nat.le_trans (size1 _) hge1) hlt hrec htb.2) (by size_fits)))))))
/-- .. its code object is in the table -/
theorem lam_tailHit {cv : Value} (hcl : closureFor scope env = pure clos) (hge : env.globals = mainGlobals) (hg : s.heap.Ns mainGlobals mg) (hcode : env.code = .ref c) (C : CodeHd s.heap c P) (hP : s.heap.get? P = some (tabObj ps)) (ht : TriplesOk ps.toList) (hf : codeAmong pos ps.toList = some cv) (hb : s.heap.BuiltinsAt mg P)
    (h : ∀ (ctv : Value) (h' : Heap) (tk : Tok), (∀ b o, s.heap.get? b = some o → h'.get? b = some o) → s.heap.objs.size ≤ h'.objs.size → Q (.ref h'.objs.size) { s with heap := h'.push (lamOb qual params body scope clos dV ((mg "__name__").getD .none) cv ctv), toks := tk }) :
    wpAny M A (makeTail "<lambda>" qual params (.expr body) scope env dV .none none pos firstLine) Q E s := by
  obtain ⟨bm, ob, b1, b2, _, b3, b4, b5, b6, b7⟩ := hb
  unfold makeTail
  rw [hcl, hge]
  refine wpAny_bind (wpAny_pure ?_)
  have size1 : ∀ oT : Obj, s.heap.objs.size ≤ (s.heap.push oT).objs.size := fun oT => by rw [Heap.size_push]; omega
  cases clos with
  | nil =>
    simp only [List.isEmpty_nil, if_true]
    exact wpAny_bind (wpAny_pure (wpAny_bind (wpAny_functionCode_hit hcode (C.code hP ht) hf (wpAny_bind (wpAny_builtinsFor hg b1 b2 b4 b5 b6 b7 (wpAny_bind (wpAny_nsGet hg (wpAny_bind (wpAny_pure (wpAny_newObj_type (h .none s.heap s.toks (fun _ _ e => e) (Nat.le_refl _)) (by size_fits)))))))))))
  | cons q r =>
    simp only [List.isEmpty_cons, Bool.false_eq_true, if_false]
    exact wpAny_bind (wpAny_newTextTuple (wpAny_bind (wpAny_functionCode_hit hcode ((C.keeps fun b o e => Heap.get?_push_of_some _ e).code (Heap.get?_push_of_some _ hP) ht) hf (wpAny_bind (wpAny_builtinsFor (hg.push _) b1 b2 (Heap.get?_push_of_some _ b4) b5 b6 b7 (wpAny_bind (wpAny_nsGet (hg.push _) (wpAny_bind (wpAny_pure (wpAny_newObj_type (h _ _ s.toks (fun b o e => Heap.get?_push_of_some _ e) (size1 _)) (by size_fits)))))))))))
end
section
variable {X : Cx} {pins : List (Addr × Obj)} {σ : St} {H : Hp} {s : Shared}
/-- what the lambda's defaults are: none, or a new tuple of one int -/
def DefOk (X : Cx) (own : List Str) (dV : Value) (h : Heap) (H : Hp) : Prop :=
  (own = [] ∧ dV = .none) ∨ ∃ (a : Str) (T : Addr) (t : Tok), own = [a] ∧ dV = .ref T ∧ h.get? T = some { cls := .type "tuple", data := .seq ([Value.int 0 t] : List Value).toArray } ∧ H T = none ∧ T ∉ frs X.stack
theorem nofr_of (I : Inv X pins σ H s) {f : Addr} (hf : s.heap.objs.size ≤ f) : f ∉ frs X.stack := fun z => by
  rcases List.mem_cons.mp (I.stkSub _ z) with e | e
  · have h1 := I.lt
    rw [← e] at h1
    exact Nat.lt_irrefl _ (Nat.lt_of_lt_of_le h1 hf)
  · exact I.nofs hf e
theorem lam_mkTail {T : List (Addr × Str)} {c P : Addr} {params : Arguments} {body : Expr} {scope : Scope} {pos : Pos} {firstLine : Nat} {E : Value → Shared → Prop} {Q : Value → Shared → Prop} {dV : Value} (I : Inv X pins σ H s) (TB : TabB X.base X.mg c P) (hcode : X.env.code = .ref c)
    (hm : (P, X.env.qual ++ "<lambda>") ∈ T) (hu : ∀ p ∈ T, p.1 = P → p.2 = X.env.qual ++ "<lambda>") (hT : Tabs T H) (hfree : ∀ y ∈ scope.names, y.2 = .free → ∃ c, X.env.cells.lookup y.1 = some c)
    (h : ∀ (f c' : Addr) (pm ctv : Value) (H1 : Hp) (s' : Shared), Inv X pins σ H1 s' → ExtN H H1 → Tabs T H1 → (∀ b, H b = none → b < s.heap.objs.size → H1 b = none) → (∀ b o, b ≠ P → s.heap.get? b = some o → s'.heap.get? b = some o) →
      s'.heap.get? f = some (lamOb (X.env.qual ++ "<lambda>") params body scope (cloFrom X.env.cells scope.names []) dV pm (.ref c') ctv) → H1 f = none → f ∉ frs X.stack → H1 c' = some (CodeO c' (X.env.qual ++ "<lambda>")) → Q (.ref f) s') :
    wpAny (model X.prog X.w) X.A (makeTail "<lambda>" (X.env.qual ++ "<lambda>") params (.expr body) scope X.env dV .none none pos firstLine) Q E s := by
  obtain ⟨ps, hP, ht, ha⟩ := hT _ hm
  have bP : s.heap.BuiltinsAt X.mg P := TB.bm.keeps I.bk
  have hP' : s.heap.get? P = some { cls := .none, data := .fields ps } := I.hok P _ hP
  cases hc : codeAmong pos ps.toList with
  | none =>
    refine lam_tail (mg := X.mg) (c := c) (P := P) (ps := ps) (closure_ok hfree) I.ok.glob (I.mod.glob.keeps I.bk) hcode (TB.code.keeps I.bk) hP' ht hc TB.gP bP fun c' ctv h' tk hx hge hlt hrec htb => ?_
    obtain ⟨c2, oc, vs, t, e2, hoc, hd, hv⟩ := hrec
    cases e2
    have hsz : s.heap.objs.size ≤ h'.objs.size := Nat.le_trans hge (Nat.le_of_lt hlt)
    have nC : H c' = none := I.hok.fresh hge
    have nCP : ∀ b, H b = none → b < s.heap.objs.size → b ≠ c' ∧ b ≠ P := fun b n l => ⟨fun z => by rw [z] at l; exact absurd hge (Nat.not_le.mpr l), fun z => by rw [z, hP] at n; cases n⟩
    have I1 := inv_table (t' := tk) (more := #[rawInt pos.line, rawInt pos.col, .ref c']) (h' := h'.push (lamOb (X.env.qual ++ "<lambda>") params body scope (cloFrom X.env.cells scope.names []) dV ((X.mg "__name__").getD .none) (.ref c') ctv)) I hP
      (fun b o hb e => Heap.get?_push_of_some _ (hx b o hb e)) (Heap.get?_push_of_some _ htb) hge ⟨oc, vs, t, Heap.get?_push_of_some _ hoc, hd, hv⟩
    have hE : ExtN H (upd (upd H P (.tbl (ps ++ #[rawInt pos.line, rawInt pos.col, .ref c']))) c' (CodeO c' (X.env.qual ++ "<lambda>"))) := fun b o e n => by
      rw [upd_ne (ne_of_none e nC), upd_ne (fun z => n ps (Option.some.inj (e.symm.trans (by rw [z]; exact hP))))]
      exact e
    have eL : (ps ++ #[rawInt pos.line, rawInt pos.col, .ref c']).toList = ps.toList ++ [rawInt pos.line, rawInt pos.col, .ref c'] := by simp
    refine h h'.objs.size c' ((X.mg "__name__").getD .none) ctv _ _ I1 hE (fun p hp => ?_) (fun b n l => ?_) (fun b o hb e => Heap.get?_push_of_some _ (hx b o hb e)) (Heap.get?_push_size _ rfl) ?_ (nofr_of I hsz) upd_same
    · by_cases hb : p.1 = P
      · rw [hu p hp hb, hb]
        refine ⟨_, by rw [upd_ne (ne_of_none hP nC), upd_same], by rw [eL]; exact PySem.TriplesOk_snoc _ _ _ _ ht, fun p' cv hcv => ?_⟩
        rw [eL] at hcv
        rcases among_app _ ht hcv with z | z
        · obtain ⟨c0, e1, e2⟩ := ha p' cv z
          exact ⟨c0, e1, hE _ _ e2 codeO_ne⟩
        · exact ⟨c', z, upd_same⟩
      · obtain ⟨ps', a1, a2, a3⟩ := hT p hp
        refine ⟨ps', by rw [upd_ne (ne_of_none a1 nC), upd_ne hb]; exact a1, a2, fun p' cv hcv => ?_⟩
        obtain ⟨c0, e1, e2⟩ := a3 p' cv hcv
        exact ⟨c0, e1, hE _ _ e2 codeO_ne⟩
    · obtain ⟨n1, n2⟩ := nCP b n l
      rw [upd_ne n1, upd_ne n2]
      exact n
    · have n1 : h'.objs.size ≠ c' := Nat.ne_of_gt hlt
      have n2 : h'.objs.size ≠ P := Nat.ne_of_gt (Nat.lt_of_lt_of_le (Heap.lt_size hP') hsz)
      rw [upd_ne n1, upd_ne n2]
      exact I.hok.fresh hsz
  | some cv =>
    obtain ⟨c', e, hco⟩ := ha pos cv hc
    subst e
    refine lam_tailHit (mg := X.mg) (c := c) (P := P) (ps := ps) (closure_ok hfree) I.ok.glob (I.mod.glob.keeps I.bk) hcode (TB.code.keeps I.bk) hP' ht hc bP fun ctv h' tk hx hsz => ?_
    exact h h'.objs.size c' ((X.mg "__name__").getD .none) ctv H _ (I.kept fun b o e => Heap.get?_push_of_some _ (hx b o e)) (ExtN.refl H) hT (fun b n _ => n) (fun b o _ e => Heap.get?_push_of_some _ (hx b o e)) (Heap.get?_push_size _ rfl) (I.hok.fresh hsz) (nofr_of I hsz) hco
/-- how the parameters of such a lambda are written, and bound -/
structure LamA (params : Arguments) (own : List Str) : Prop where
  ds : ∀ env : Env, (own = [] ∧ defaultsOf params env = ([], [])) ∨ ∃ (a : Str) (j : Nat) (p : Pos), own = [a] ∧ defaultsOf params env = ([eval (.Constant (.int 0) j p) env], [])
  kw : params.kwonlyargs = []
  bind0 : own = [] → ∀ (q : Str) (body : Expr) (scope : Scope) (cl : List (Str × Addr)) (pm cv ctv : Value), bindArgs (lamFn q params body scope cl .none pm cv ctv) ⟨[], []⟩ = pure []
  bind1 : ∀ a : Str, own = [a] → ∀ (q : Str) (body : Expr) (scope : Scope) (cl : List (Str × Addr)) (T : Addr) (pm cv ctv v : Value), ∃ k, bindArgs (lamFn q params body scope cl (.ref T) pm cv ctv) ⟨[], []⟩ = seqItems? (.ref T) >>= k ∧ k (some #[v]) = pure [(a, v)]
theorem lam_make {T : List (Addr × Str)} {c P : Addr} {params : Arguments} {body : Expr} {scope : Scope} {pos : Pos} {E : Value → Shared → Prop} {Q : Value → Shared → Prop} {own : List Str} (I : Inv X pins σ H s) (TB : TabB X.base X.mg c P) (hcode : X.env.code = .ref c)
    (hm : (P, X.env.qual ++ "<lambda>") ∈ T) (hu : ∀ p ∈ T, p.1 = P → p.2 = X.env.qual ++ "<lambda>") (hT : Tabs T H) (LA : LamA params own) (hfree : ∀ y ∈ scope.names, y.2 = .free → ∃ c, X.env.cells.lookup y.1 = some c)
    (h : ∀ (f c' : Addr) (dV pm ctv : Value) (H1 : Hp) (s' : Shared), Inv X pins σ H1 s' → ExtN H H1 → Tabs T H1 → DefOk X own dV s'.heap H1 →
      s'.heap.get? f = some (lamOb (X.env.qual ++ "<lambda>") params body scope (cloFrom X.env.cells scope.names []) dV pm (.ref c') ctv) → H1 f = none → f ∉ frs X.stack → H1 c' = some (CodeO c' (X.env.qual ++ "<lambda>")) → Q (.ref f) s') :
    wpAny (model X.prog X.w) X.A (eval (.Lambda params body scope pos) X.env) Q E s := by
  rw [arm_eval_Lambda]
  rcases LA.ds X.env with ⟨e0, e1⟩ | ⟨a, j, p, e0, e1⟩
  · rw [e1]
    show wpAny _ _ (do let dv ← evalAll []; let kdv ← holding dv (evalAllOpt []); makeFunction "<lambda>" (X.env.qual ++ "<lambda>") params (.expr body) scope X.env dv kdv [] pos pos.line) Q E s
    refine wpAny_bind (wpAny_pure (wpAny_bind (wpAny_holding (wpAny_pure ?_))))
    rw [makeFunction_eq, LA.kw]
    simp only [List.zip_nil_left, List.filterMap_nil, List.isEmpty_nil, if_true, pure_bind]
    exact lam_mkTail I TB hcode hm hu hT hfree fun f c' pm ctv H1 s' I1 x1 t1 _ _ g1 g2 g3 g4 => h f c' .none pm ctv H1 s' I1 x1 t1 (.inl ⟨e0, rfl⟩) g1 g2 g3 g4
  · rw [e1]
    show wpAny _ _ (do let dv ← evalAll [eval (.Constant (.int 0) j p) X.env]; let kdv ← holding dv (evalAllOpt []); makeFunction "<lambda>" (X.env.qual ++ "<lambda>") params (.expr body) scope X.env dv kdv [] pos pos.line) Q E s
    refine wpAny_bind (wpAny_evalAll_cons (wpAny_Constant_int (wpAny_evalAll_nil (wpAny_bind (wpAny_holding (wpAny_pure ?_))))))
    rw [makeFunction_eq, LA.kw]
    simp only [List.zip_nil_left, List.filterMap_nil, List.isEmpty_nil, List.isEmpty_cons, Bool.false_eq_true, if_false, if_true, pure_bind]
    refine wpAny_bind (wpAny_newTextTuple ?_)
    have I1 : Inv X pins σ H { s with heap := s.heap.push { cls := .type "tuple", data := .seq ([Value.int 0 s.toks] : List Value).toArray }, toks := s.toks + 1 } := I.kept fun b o e => Heap.get?_push_of_some _ e
    have hTs : (s.heap.push { cls := .type "tuple", data := .seq ([Value.int 0 s.toks] : List Value).toArray }).get? s.heap.objs.size = some { cls := .type "tuple", data := .seq ([Value.int 0 s.toks] : List Value).toArray } := Heap.get?_push_at rfl rfl
    have hTn : H s.heap.objs.size = none := I.hok.fresh (Nat.le_refl _)
    have hTP : s.heap.objs.size ≠ P := fun z => by
      obtain ⟨ps, hP, _⟩ := hT _ hm
      have hP2 := I.hok P _ hP
      have lt := hP2.lt
      rw [← z] at lt
      exact Nat.lt_irrefl _ lt
    refine lam_mkTail I1 TB hcode hm hu hT hfree fun f c' pm ctv H1 s' I2 x1 t1 old k1 g1 g2 g3 g4 => h f c' _ pm ctv H1 s' I2 x1 t1 (.inr ⟨a, s.heap.objs.size, s.toks, e0, rfl, k1 _ _ hTP hTs, old _ hTn ?_, nofr_of I (Nat.le_refl _)⟩) g1 g2 g3 g4
    exact Heap.lt_size hTs
end
/-- the lambda's names: captured ones, globals, its own parameters -/
structure LamN (N : List Str) (sc scope : Scope) (own : List Str) : Prop where
  kind : scope.kind = .function
  co : scope.isCoroutine = false
  gen : scope.isGenerator = false
  cell : ∀ y ∈ scope.names, y.2 ≠ .cell
  loc : ∀ y ∈ scope.names, y.2 = .local → y.1 ∉ N
  free : ∀ y ∈ scope.names, y.2 = .free → sc.names.lookup y.1 = some .cell ∨ sc.names.lookup y.1 = some .free
  par : ∀ a ∈ own, scope.names.lookup a = some .local
def lamNB (N : List Str) (sc scope : Scope) (own : List Str) : Bool :=
  decide (scope.kind = .function) && (!scope.isCoroutine && (!scope.isGenerator && ((scope.names.all fun y => !decide (y.2 = .cell) && ((!decide (y.2 = .local) || !decide (y.1 ∈ N)) && (!decide (y.2 = .free) || (decide (sc.names.lookup y.1 = some .cell) || decide (sc.names.lookup y.1 = some .free))))) && own.all fun a => decide (scope.names.lookup a = some .local))))
theorem lamN_by {N : List Str} {sc scope : Scope} {own : List Str} (h : lamNB N sc scope own = true) : LamN N sc scope own := by
  unfold lamNB at h
  simp only [Bool.and_eq_true, Bool.or_eq_true, Bool.not_eq_true', decide_eq_true_eq, decide_eq_false_iff_not, List.all_eq_true] at h
  obtain ⟨h1, h2, h3, h4, h5⟩ := h
  refine ⟨h1, h2, h3, fun y hy => (h4 y hy).1, fun y hy e => ?_, fun y hy e => ?_, h5⟩
  · rcases (h4 y hy).2.1 with z | z
    · exact absurd e z
    · exact z
  · rcases (h4 y hy).2.2 with z | z
    · exact absurd e z
    · exact z
section
variable {X : Cx} {pins : List (Addr × Obj)} {σ : St} {H HZ : Hp} {s s1 : Shared}
theorem LamN.has {scope : Scope} {own : List Str} (L : LamN X.N X.env.scope scope own) (ok : X.Ok) : ∀ y ∈ scope.names, y.2 = .free → ∃ c, X.env.cells.lookup y.1 = some c := fun y hy e => by
  rcases L.free y hy e with k | k
  · exact ok.has _ (.inl k)
  · exact ok.has _ (.inr k)
theorem lam_startN {A : Around} {outer : List Env} {E : XK} {scope : Scope} {f c' : Addr} {h₁ : Heap} {tk : Nat} {own : List Str} {binds : List (Str × Value)} (I : Inv X pins σ H s) (L : LamN X.N X.env.scope scope own) (e0 : Env0 X.prog X.w X.K X.mg X.base A outer s1 HZ) (hd : A.handled = none)
    (un : Un (frs X.stack) [] H HZ s.heap s1.heap) (hns : h₁.Ns s1.heap.objs.size fun y => binds.reverse.lookup y) (kp : ∀ b o, s1.heap.get? b = some o → h₁.get? b = some o) :
    Inv (lamCx X A outer s1 HZ E scope f c') [] σ HZ { s1 with heap := h₁, toks := tk } := by
  have hfree := L.has I.ok
  have cm : ∀ {y c}, (cloFrom X.env.cells scope.names []).lookup y = some c → X.env.cells.lookup y = some c := fun {y c} e => by
    rcases cloFrom_mem (PySem.mem_of_lookup e) with hm | ⟨h1, h2⟩
    · cases hm
    · obtain ⟨c1, hc⟩ := hfree _ h1 rfl
      have hc : X.env.cells.lookup y = some c1 := hc
      have e2 : c = c1 := by
        rw [h2, hc] <;> rfl
      rw [e2]
      exact hc
  have look : ∀ {y}, scope.names.lookup y = some .free → ∃ c, (cloFrom X.env.cells scope.names []).lookup y = some c := fun {y} hl =>
    mem_lookup (cloFrom_has (cells := X.env.cells) (acc := []) (show (y, NameKind.free) ∈ scope.names from PySem.mem_of_lookup hl))
  have cellK : ∀ {c : Addr} {v : Option Value}, H c = none → s.heap.IsCell c v → h₁.IsCell c v := fun {c v} n ⟨o, ho, hd⟩ => by
    obtain ⟨sl, q⟩ := un.any ho n (by simp)
    exact ⟨_, kp _ _ q, hd⟩
  have noA : ∀ b : Addr, b ∉ (lamCx X A outer s1 HZ E scope f c').ex := fun b z => absurd (show b ∈ ([] : List Addr) from z) (by simp)
  refine ⟨⟨e0.mod, L.kind, rfl, rfl, Nat.le_refl _, fun y z c e1 e2 => I.ok.inj y z c (cm e1) (cm e2), fun y hy => ?_, fun y c z _ => ?_, fun _ => hd, Around.frames_deeper e0.frames, .inr ⟨rfl, rfl⟩, fun b z => absurd z (noA b), e0.bs, e0.bsz, fun b _ _ => noA b,
      fun b z => absurd z (noA b), e0.funs, e0.frf⟩,
    rfl, e0.bare, Un.kept kp, ⟨_, hns, fun i y v e1 e2 e3 => ?_⟩, fun y c e => ?_, e0.hok.fresh (Nat.le_refl _), fun y c e => ?_, fun q hq => absurd (show q ∈ ([] : List (Addr × Obj)) ++ [] from hq) (by simp), e0.hok.kept kp, I.len⟩
  · have hy : scope.names.lookup y = some .cell ∨ scope.names.lookup y = some .free := hy
    rcases hy with hy | hy
    · exact absurd rfl (L.cell _ (PySem.mem_of_lookup hy))
    · exact look hy
  · have z : false = true := z
    cases z
  · have e3 : Vis scope y := e3
    have yN : y ∈ X.N := List.mem_of_getElem? e1
    rcases e3 with k | k | k
    · exact absurd yN (L.loc _ (PySem.mem_of_lookup k) rfl)
    · exact absurd rfl (L.cell _ (PySem.mem_of_lookup k))
    · obtain ⟨m, hn, hl⟩ := I.loc
      have hvis : Vis X.env.scope y := (L.free _ (PySem.mem_of_lookup k) rfl).elim (fun k => .inr (.inl k)) (fun k => .inr (.inr k))
      obtain ⟨w', r, q⟩ := hl i y v e1 e2 hvis
      obtain ⟨c2, h2⟩ := look k
      refine ⟨w', r, .inr ⟨.inr k, c2, h2, ?_⟩⟩
      have c1 := cm h2
      rcases q with ⟨k', _⟩ | ⟨_, c3, e', z⟩
      · have k' : X.env.scope.names.lookup y = some .local := k'
        rcases L.free _ (PySem.mem_of_lookup k) rfl with k2 | k2 <;> rw [show X.env.scope.names.lookup y = _ from k2] at k' <;> cases k'
      · rw [c1] at e'
        cases e'
        exact cellK (I.freeC y _ c1) z
  · obtain ⟨w', z⟩ := I.cell y c (cm e)
    exact ⟨w', cellK (I.freeC y c (cm e)) z⟩
  · obtain ⟨v, o, ho, hd⟩ := I.cell y c (cm e)
    exact un.free c o ho (I.freeC y c (cm e)) (by simp)
/-- the lambda's call, in the def that got it: Z is that def's context, entered at s -/
theorem pe_actN {CXg : CXT} {Eg : XK} {Ng : List Str} {qg : Str} {sg : Scope} {g f c' : Addr} {cdg dV pm ctv : Value} {params : Arguments} {body : Expr} {scope : Scope} {k i : Nat} {a : Str} {pn : List (Addr × Obj)} {xe : Value → Shared → Prop} {W : WX} {E : XK} {tb : TE} {p1 p2 : Pos} {own : List Str}
    (I : Inv X pins σ H s) (L : LamN X.N X.env.scope scope own) (LA : LamA params own) (hD : DefOk X own dV s.heap H) (hf : s.heap.get? f = some (lamOb (X.env.qual ++ "<lambda>") params body scope (cloFrom X.env.cells scope.names []) dV pm (.ref c') ctv)) (hfn : H f = none) (hfr : f ∉ frs X.stack)
    (tk : Takes ((cxOf CXg X.prog X.w X.K X.mg X.base Ng qg sg g cdg X.A X.stack s H Eg).tr pn xe) W) (hW : ∀ cls d σ' H', E cls d H' → W cls d σ' H') (hr : Room (k + 1) (X.A.deeper (envOfC qg sg s.heap.objs.size g cdg)))
    (hbody : ∀ (A : Around) (outer : List Env) (s : Shared) (H : Hp), Room k (A.deeper (lamEnv X scope s.heap.objs.size f c')) → PE (lamCx X A outer s H E scope f c') body tb)
    (hN : Ng[i]? = some a) (hv : Vis sg a) (hd : (a == ("__debug__" : Str)) = false := by decide) (hcd : (a == ("__classdict__" : Str)) = false := by decide) :
    PE ((cxOf CXg X.prog X.w X.K X.mg X.base Ng qg sg g cdg X.A X.stack s H Eg).tr pn xe) (.Call (.Name a p1) [] [] p2)
      (fun σZ HZ Q => σZ[i]? = some (some (.ref f)) ∧ HZ c' = some (CodeO c' (X.env.qual ++ "<lambda>")) ∧ tb σ HZ Q) := by
  refine ⟨fun pinsZ sZ σZ HZ Q IZ h => ?_⟩
  obtain ⟨hs, hc, ht⟩ := h
  refine wpAny_Call_Name_kw (thn ((pe_var (pos := p1) (i := i) hN hv hd hcd).run pinsZ sZ σZ HZ (fun v H1 => v = .ref f ∧ H1 = HZ) IZ ⟨.ref f, hs, rfl, rfl⟩) fun u s1 ⟨v, H1, I1, r1, q1⟩ => ?_)
  obtain ⟨ev, eH⟩ := q1
  subst ev
  rw [eH] at I1
  obtain rfl : u = Value.ref f := r1
  have old : ∀ (b : Addr) (o : Obj), s.heap.get? b = some o → H b = none → b ∉ frs X.stack → s1.heap.get? b = some o := fun b o e n hb => I1.base.keep b o e n hb (fun z => nomatch (show b ∈ ([] : List Addr) from z))
  have of1 := old f _ hf hfn hfr
  refine PySem.W.callWith_F0 ⟨_, _, _, _, of1⟩ ?_
  have un : Un (frs X.stack) [] H HZ s.heap s1.heap := I1.base
  obtain ⟨⟨oc, vs, t, hoc, hdc, hvc⟩, _, _⟩ := I1.hok c' _ hc
  have bnd : ∃ binds : List (Str × Value), (∀ y ∈ binds, scope.names.lookup y.1 = some .local) ∧ ∀ {M : Model} {A : Around} {Q' : List (Str × Value) → Shared → Prop} {E' : Value → Shared → Prop}, Q' binds s1 → wpAny M A (bindArgs (lamFn (X.env.qual ++ "<lambda>") params body scope (cloFrom X.env.cells scope.names []) dV pm (.ref c') ctv) ⟨[], []⟩) Q' E' s1 := by
    rcases hD with ⟨e0, rfl⟩ | ⟨a, T, t, e0, rfl, hT, hTn, hTf⟩
    · exact ⟨[], fun y hy => (nomatch hy), fun {M A Q' E'} q => by rw [LA.bind0 e0]; exact wpAny_pure q⟩
    · obtain ⟨k1, b1, b2⟩ := LA.bind1 a e0 (X.env.qual ++ "<lambda>") body scope (cloFrom X.env.cells scope.names []) T pm (.ref c') ctv (.int 0 t)
      refine ⟨[(a, .int 0 t)], fun y hy => ?_, fun {M A Q' E'} q => ?_⟩
      · obtain rfl := List.mem_singleton.mp hy
        exact L.par a (by rw [e0]; exact List.mem_singleton.mpr rfl)
      · rw [b1]
        refine wpAny_bind (wpAny_seqItems (old T _ hT hTn hTf) rfl ?_)
        rw [show ([Value.int 0 t] : List Value).toArray = #[Value.int 0 t] from rfl, b2]
        exact wpAny_pure q
  obtain ⟨binds, hbl, hbd⟩ := bnd
  have rc : codeAny (model X.prog X.w) (X.A.deeper (envOfC qg sg s.heap.objs.size g cdg)) (.call (.ref f) ⟨[], []⟩) (CR (L2.CX X.prog X.w) (envOfC qg sg s.heap.objs.size g cdg :: X.stack) X.prog X.w HZ s1 Q E) s1 := by
    refine PySem.W.kla_callFunE hr.depth of1 rfl L.co L.gen rfl ⟨c', oc, vs, t, rfl, hoc, hdc, hvc⟩ (hbd ?_)
    refine wpAny_newFunctionEnv L.cell hbl (fun h₁ hns hsb => ⟨I1.nolimit.fresh _ hsb, ?_⟩) L.kind
    show codeAny _ _ (.expr body (lamEnv X scope s1.heap.objs.size f c')) _ _
    have kp : ∀ b o, s1.heap.get? b = some o → h₁.get? b = some o := fun b o e => hsb.extBut b o (Nat.ne_of_lt (Heap.lt_size e)) (Heap.get?_push_of_some _ e)
    have J : Inv (lamCx X (X.A.deeper (envOfC qg sg s.heap.objs.size g cdg)) (envOfC qg sg s.heap.objs.size g cdg :: X.stack) s1 HZ E scope f c') [] σ HZ { s1 with heap := h₁, toks := s1.toks + binds.length } := lam_startN I L I1.env0 hr.hd un hns kp
    refine PySem.W.kla_codeExpr (wpAny_mono ((hbody _ _ s1 HZ (hr.deeper _)).run [] _ _ HZ Q J ht) (fun v s' hq => ?_) fun e s' hq => hq)
    obtain ⟨w', H', J', rv, q⟩ := hq
    exact ⟨w', H', J'.os, J'.bare, J'.base, J'.hok, rv, q⟩
  have hx : Passes (L2.CX X.prog X.w) ((cxOf CXg X.prog X.w X.K X.mg X.base Ng qg sg g cdg X.A X.stack s H Eg).tr pn xe) E := passes_call tk hW
  refine wpAny_call (codeAny_mono rc fun r s' hq => ?_)
  cases r with
  | error e => exact hx pinsZ σZ HZ s1 e s' I1 hq
  | ok fl =>
    cases fl with
    | ret u => exact I1.after hq
    | next => exact False.elim hq
    | brk => exact False.elim hq
    | cont => exact False.elim hq
/-- x(lambda ..: body) -/
theorem pe_lamN {T : List (Addr × Str)} {TT : (XK → Hp → VK → Prop) → Hp → VK → Prop} {x a : Str} {g c P : Addr} {k : Nat} {pg : Arguments} {bg : List Stmt} {sg : Scope} {dV kV doc pm cdv ct oc : Value} {an od : Option Addr} {osl : Array (Option Value)} {Ng : List Str}
    {params : Arguments} {body : Expr} {scope : Scope} {t : XK → TE} {p lpos pos : Pos} (own : List Str) (hg : Gl X x) (hm : X.mg x = some (.ref g)) (hk : PySem.W.keepIn X.K (.ref g) = true)
    (lk : X.K.lookup g = some ⟨oc, od, .func (PySem.W.fnOf x x pg bg sg dV kV doc pm an cdv ct), osl⟩) (hcg : PySem.W.codeIn X.K cdv x = true) (hb : L2.Binds X.K (PySem.W.fnOf x x pg bg sg dV kV doc pm an cdv ct) [a] []) (Sg : FnScope Ng [a] sg) (hNg : Ng[0]? = some a) (hva : Vis sg a)
    (hG : GivesTo X Ng x sg g cdv bg a (X.env.qual ++ "<lambda>") TT)
    (TB : TabB X.base X.mg c P) (hcode : X.env.code = .ref c) (hmT : (P, X.env.qual ++ "<lambda>") ∈ T) (hu : ∀ p ∈ T, p.1 = P → p.2 = X.env.qual ++ "<lambda>") (hr : Room (k + 2) X.A) (LA : LamA params own) (L : LamN X.N X.env.scope scope own)
    (hbody : ∀ (A : Around) (outer : List Env) (s : Shared) (H : Hp) (E : XK) (f c' : Addr), Room k (A.deeper (lamEnv X scope s.heap.objs.size f c')) → PE (lamCx X A outer s H E scope f c') body (t E))
    (hdb : (x == ("__debug__" : Str)) = false := by decide) (hd : (a == ("__debug__" : Str)) = false := by decide) (hcd : (a == ("__classdict__" : Str)) = false := by decide) :
    PE X (.Call (.Name x p) [.Lambda params body scope lpos] [] pos) (tLam T TT t) := by
  refine ⟨fun pins s σ H Q I h => ?_⟩
  obtain ⟨hT, h⟩ := h
  refine wpAny_Call_Name_kw (ld_glob I hg hm ?_ hdb)
  refine PySem.W.callWith_K (h₀ := X.base) I.ok.mod.kin hk ?_ (by rfl) (by rfl)
  show wpAny _ _ (spliced ((false, eval (.Lambda params body scope lpos) X.env) :: backTo pos (starEach [] X.env))) _ _ s
  refine Calls.spliced_cons (lam_make I TB hcode hmT hu hT LA (L.has I.ok) fun f c' dV' pm' ctv H1 s' I1 eN T1 dOk hf hfn hfr hco => ?_)
  refine Calls.spliced_nil ⟨I1.kIn, ?_⟩
  have rc : codeAny (model X.prog X.w) X.A (.call (.ref g) ⟨[.ref f], []⟩) (CR C8.CX0 X.stack X.prog X.w H1 s' Q C8.E0) s' := by
    refine run_ofS (N := Ng) (ps := [a]) (us := [.ref f]) (vs := [.ref f]) lk hcg Sg hr I1.env0 (hb s' [.ref f] I1.kIn rfl) (.cons rfl .nil) rfl fun hr' => ?_
    obtain ⟨t', ht', hq'⟩ := hG f c' s' H1 Q (fun E H' Q' => t E σ H' Q') (fun W pn xe E p1 p2 tk hW => pe_actN (i := 0) I1 L LA dOk hf hfn hfr tk hW hr' (fun A outer s H hr2 => hbody A outer s H E f c' hr2) hNg hva hd hcd) hco (h H1 eN T1)
    exact ⟨t', ht'.nox, hq'⟩
  refine wpAny_call (codeAny_mono rc fun r s2 hq => ?_)
  cases r with
  | error e => exact (show False from hq).elim
  | ok fl =>
    cases fl with
    | ret u => exact I1.after hq
    | next => exact False.elim hq
    | brk => exact False.elim hq
    | cont => exact False.elim hq
end
end Wh
/-! ## WhBase -/
set_option Elab.async false
set_option linter.all false
set_option maxRecDepth 100000
set_option maxHeartbeats 4000000
/-! Names of the built-ins, defs as they are called, loops, data. -/
namespace Wh
open PySem PySem.Spec PyProof.Rows L2 He
/-- the built-ins that the text names, none of them bound by the module -/
structure Blt (mg : Str → Option Value) : Prop where
  isinstance : mg "isinstance" = none
  int : mg "int" = none
  bool : mg "bool" = none
  str : mg "str" = none
  list : mg "list" = none
  tuple : mg "tuple" = none
  len : mg "len" = none
  all : mg "all" = none
  abs : mg "abs" = none
  range : mg "range" = none
  zip : mg "zip" = none
  sorted : mg "sorted" = none
  set : mg "set" = none
  sum : mg "sum" = none
  min : mg "min" = none
def bltFa : List Fa := [.free "isinstance", .free "int", .free "bool", .free "str", .free "list", .free "tuple", .free "len", .free "all", .free "abs", .free "range", .free "zip", .free "sorted", .free "set", .free "sum", .free "min"]
/-- a def by its name, its promise -/
def Cal (P : Program) (w : World) (K : Fr') (mg : Str → Option Value) (base : Heap) (CX : CXT) (k : Nat) (x : Str) (ps : List Str) (sp : Sp) : Prop :=
  ∃ (f : Addr) (fd : FuncData), FnOk P w K mg base CX k f fd ps sp ∧ mg x = some (.ref f) ∧ PySem.W.keepIn K (.ref f) = true ∧ Binds K fd ps []
/-- .. called by keywords alone -/
def CalK (P : Program) (w : World) (K : Fr') (mg : Str → Option Value) (base : Heap) (CX : CXT) (k : Nat) (x : Str) (ps ks : List Str) (gV : {α : Type} → List α → List α) (sp : Sp) : Prop :=
  ∃ (f : Addr) (fd : FuncData), FnOk P w K mg base CX k f fd ps sp ∧ mg x = some (.ref f) ∧ PySem.W.keepIn K (.ref f) = true ∧ ∀ (s : Shared) (ws : List Value), ws.length = ks.length → BindsTo s fd ⟨[], ks.zip ws⟩ (ps.zip (gV ws))
section
variable {X : Cx} {CX : CXT} {k : Nat} {x : Str} {ps ks : List Str} {sp : Sp} {E : XK} {e : Expr} {es : List Expr} {kws : List Keyword} {t : TA} {p pos : Pos} {gV : {α : Type} → List α → List α}
theorem pe_cal (C : Cal X.prog X.w X.K X.mg X.base CX k x ps sp) (hr : Room k X.A) (hg : Gl X x) (hx : Passes CX X E) (ha : PA X (e :: es) t) (hdb : (x == ("__debug__" : Str)) = false := by decide)
    (he : starEach (e :: es) X.env = (false, eval e X.env) :: starEach es X.env := by rfl) (hpl : (backTo pos (starEach es X.env)).any (·.1) = false := by rfl) : PE X (.Call (.Name x p) (e :: es) [] pos) (tCall sp [] E t) := by
  obtain ⟨f, fd, F, hm, hk, hb⟩ := C
  exact pe_call F hr hg hm hk hb .nil hx ha hdb he hpl
/-- the reading of a call by keywords: the values in the parameters' order -/
def tCalK (sp : Sp) (n : Nat) (gV : {α : Type} → List α → List α) (E : XK) (t : TA) : TE := fun σ H Q => t σ H fun zs H1 => zs.length = n ∧ sp (gV zs) H1 Q E
theorem pe_calK (C : CalK X.prog X.w X.K X.mg X.base CX k x ps ks gV sp) (hgV : ∀ (zs : List V) (ws : List Value), zs.length = ks.length → Vals zs ws → Vals (gV zs) (gV ws)) (hr : Room k X.A) (hg : Gl X x) (hx : Passes CX X E) (hkw : PK X kws t)
    (hall : (backToKw pos (keywordEach kws X.env)).all (·.1.isSome) = true := by rfl) (hks : (backToKw pos (keywordEach kws X.env)).filterMap (·.1) = ks := by rfl) (hdb : (x == ("__debug__" : Str)) = false := by decide)
    (hpl : ((backTo pos (starEach [] X.env)).any (·.1) || (backToKw pos (keywordEach kws X.env)).any (·.1.isNone)) = false := by rfl) :
    PE X (.Call (.Name x p) [] kws pos) (tCalK sp ks.length gV E t) := by
  obtain ⟨f, fd, F, hm, hk, hb⟩ := C
  refine ⟨fun pins s σ H Q I h => ?_⟩
  refine wpAny_Call_Name_kw (ld_glob I hg hm ?_ hdb)
  refine PySem.W.callWith_KW0 (h₀ := X.base) I.ok.mod.kin hk hall ?_ hpl
  refine thn (hkw.run pos pins s σ H _ I h) fun ws s2 ⟨zs, H2, I2, rz, hl, q2⟩ => ⟨I2.kIn, ?_⟩
  rw [hks]
  refine wpAny_call (codeAny_mono (F.run _ X.stack _ _ ⟨[], ks.zip ws⟩ (gV ws) (gV zs) _ E hr I2.env0 (hb s2 ws (by rw [← rz.length, hl])) (hgV zs ws hl rz) q2) fun r s' hq => ?_)
  cases r with
  | error e => exact hx pins σ H2 s2 e s' I2 hq
  | ok fl =>
    cases fl with
    | ret u => exact I2.after hq
    | next => exact False.elim hq
    | brk => exact False.elim hq
    | cont => exact False.elim hq
end
/-! ### loops -/
section
variable {K : Fr'} {ta : TA} {tl : TE} {g : TG} {tt : TT} {te : TE} {tb : TS} {vs : List Nat} {σ : St} {H : Hp} {Q : VK} {D : Ends}
/-- what a comprehension's list is built by: Pv at each turn -/
def LcP (n : Nat) (it : Nat → V → Prop) (g : TG) (tt : TT) (te : TE) (vs : List Nat) (σ : St) (Dl : Addr) (H1 : Hp) (Q : VK) : Prop :=
  ∃ Pv : Nat → Hp → Prop, Pv 0 (upd H1 Dl (.lst [])) ∧ (∀ i x H, i < n → it i x → Pv i H → g x (wipe σ vs) H fun σ2 H2 => wipe σ2 vs = wipe σ vs ∧ tt σ2 H2 fun b H3 => if b = true then te σ2 H3 fun y H4 => ∃ acc, H4 Dl = some (.lst acc) ∧ acc.length < sizeLine ∧ Pv (i + 1) (upd H4 Dl (.lst (acc ++ [y]))) else Pv (i + 1) H3) ∧ ∀ H, Pv n H → Q (.ref Dl) H
theorem lc_rng1 (h : ta σ H fun xs H1 => ∃ n : Nat, xs = [.int n] ∧ n ≤ 2 ^ 60 ∧ ∀ Dl, H1 Dl = none → LcP n (fun i x => x = .int i) g tt te vs σ Dl H1 Q) (mono : ∀ {R R' : List V → Hp → Prop}, (∀ a b, R a b → R' a b) → ta σ H R → ta σ H R') : tLc (iRng1 ta) g tt te vs σ H Q := by
  refine mono (fun xs H1 h1 => ?_) h
  obtain ⟨n, e, hn, k⟩ := h1
  refine ⟨n, e, by omega, by omega, fun Dl hd => ?_⟩
  obtain ⟨Pv, h0, hs, hdn⟩ := k Dl hd
  have en : ((n : Nat) : Int).toNat = n := by omega
  rw [en]
  exact lc_range (lo := 0) Pv h0 (fun i H hi hp => by
    have z := hs i (.int i) H hi rfl hp
    have e0 : (0 : Int) + (i : Nat) = (i : Nat) := by omega
    rw [e0]
    exact z) hdn
end
end Wh
/-! ## WhData -/
set_option Elab.async false
set_option linter.all false
set_option maxRecDepth 100000
set_option maxHeartbeats 4000000
/-! Data as it is compared and told; loops over what stands. -/
namespace Wh
open PySem PySem.Spec PyProof.Rows L2 He Evl
/-- all but dicts and tables stand as they stood -/
def Gr (H H' : Hp) : Prop := ∀ a o, H a = some o → (∀ kvs, o ≠ HO.dK kvs) → (∀ ps, o ≠ HO.tbl ps) → H' a = some o
theorem Gr.refl (H : Hp) : Gr H H := fun _ _ h _ _ => h
theorem Gr.trans {H H1 H2 : Hp} (a : Gr H H1) (b : Gr H1 H2) : Gr H H2 := fun x o h n m => b x o (a x o h n m) n m
theorem Gr.ex {H H' : Hp} (a : Ex H H') : Gr H H' := fun x o h _ _ => a x o h
theorem Gr.new {H : Hp} {p : Addr} {o : HO} (h : H p = none) : Gr H (upd H p o) := Gr.ex (Ex.new h)
theorem Gr.mut {H H' : Hp} {p : Addr} {o : HO} (e : Gr H H') (h : H p = none) : Gr H (upd H' p o) := fun a u ha n m => by
  have hne : a ≠ p := fun z => by rw [z, h] at ha; cases ha
  rw [upd_ne hne]
  exact e a u ha n m
theorem Gr.dct {H H' : Hp} {p : Addr} {kvs : List (Key × V)} {o : HO} (e : Gr H H') (h : H p = some (.dK kvs)) : Gr H (upd H' p o) := fun a u ha n m => by
  have hne : a ≠ p := fun z => by rw [z, h] at ha; cases ha; exact n _ rfl
  rw [upd_ne hne]
  exact e a u ha n m
theorem gr_rd {H H' : Hp} {a : Addr} {u : HO} (e : Gr H H') (h : Rd H a u) (n : ∀ kvs, u ≠ HO.dK kvs) (m : ∀ ps, u ≠ HO.tbl ps) : Rd H' a u := by
  rcases h with h | ⟨o, h⟩
  · exact .inl (e a _ h n m)
  · exact .inr ⟨o, e a _ h (fun _ z => by cases z) (fun _ z => by cases z)⟩
theorem gr_l {K : Fr'} {H H' : Hp} {a : Addr} {xs : List V} (e : Gr H H') (h : SqL K H a xs) : SqL K H' a xs := by
  rcases h with h | h
  · exact .inl (gr_rd e h (fun _ z => by cases z) (fun _ z => by cases z))
  · exact .inr h
theorem gr_t {K : Fr'} {H H' : Hp} {a : Addr} {xs : List V} (e : Gr H H') (h : SqT K H a xs) : SqT K H' a xs := by
  rcases h with h | h
  · exact .inl (gr_rd e h (fun _ z => by cases z) (fun _ z => by cases z))
  · exact .inr h
mutual
theorem dp_gr {K : Fr'} {H H' : Hp} (e : Gr H H') : ∀ (d : PyData) {x : V}, Dp K H x d → Dp K H' x d
  | .none, _, h => by cases h; exact .non
  | .bool b, _, h => by cases h; exact .bl b
  | .int i, _, h => by cases h; exact .int i
  | .str s, _, h => by cases h; exact .str s
  | .list ds, _, h => by cases h with | lst hs ha => exact .lst (gr_l e hs) (dpa_gr e ds ha)
  | .tuple ds, _, h => by cases h with | tup hs ha => exact .tup (gr_t e hs) (dpa_gr e ds ha)
  | .dict _, _, h => by cases h
theorem dpa_gr {K : Fr'} {H H' : Hp} (e : Gr H H') : ∀ (ds : List PyData) {xs : List V}, DpAll K H xs ds → DpAll K H' xs ds
  | [], _, h => by cases h; exact .nil
  | d :: ds, _, h => by cases h with | cons h1 h2 => exact .cons (dp_gr e d h1) (dpa_gr e ds h2)
end
theorem dp_ex {K : Fr'} {H H' : Hp} {x : V} {d : PyData} (e : Ex H H') (h : Dp K H x d) : Dp K H' x d := dp_gr (Gr.ex e) d h
/-- its type's name -/
def tn : PyData → String
  | .none => "NoneType"
  | .bool _ => "bool"
  | .int _ => "int"
  | .str _ => "str"
  | .list _ => "list"
  | .tuple _ => "tuple"
  | .dict _ => "dict"
theorem sqL_ty {K : Fr'} {H : Hp} {a : Addr} {xs : List V} (h : SqL K H a xs) : TyX K H (.ref a) (.type "list") := by
  rcases h with (h | ⟨o, h⟩) | ⟨o, its, n, h1, h2, _⟩
  · exact .base (.lst h)
  · exact .base (.frz h)
  · exact .kList h1 h2
theorem sqT_ty {K : Fr'} {H : Hp} {a : Addr} {xs : List V} (h : SqT K H a xs) : TyX K H (.ref a) (.type "tuple") := by
  rcases h with (h | ⟨o, h⟩) | ⟨o, its, n, h1, h2, _⟩
  · exact .base (.tup h)
  · exact .fTuple h
  · exact .kTuple h1 h2
theorem dp_ty {K : Fr'} {H : Hp} {x : V} {d : PyData} (h : Dp K H x d) : TyX K H x (.type (tn d)) := by
  cases h with
  | non => exact .base .non
  | bl b => exact .base (.bl b)
  | int i => exact .base (.int i)
  | str s => exact .base (.str s)
  | lst h _ => exact sqL_ty h
  | tup h _ => exact sqT_ty h
/-- of a type that is told by its name -/
inductive Nm7 : String → Prop where
  | non : Nm7 "NoneType"
  | bl : Nm7 "bool"
  | int : Nm7 "int"
  | str : Nm7 "str"
  | lst : Nm7 "list"
  | tup : Nm7 "tuple"
  | dct : Nm7 "dict"
def kitr (a b : String) : Bool := a == b || (a == "bool" && b == "int")
theorem tn_nm (d : PyData) : Nm7 (tn d) := by cases d <;> constructor
theorem kit_int {a : String} (h : Nm7 a) : kitB a "int" = some (kitr a "int") := by cases h <;> decide +kernel
theorem kit_bool {a : String} (h : Nm7 a) : kitB a "bool" = some (kitr a "bool") := by cases h <;> decide +kernel
theorem kit_str {a : String} (h : Nm7 a) : kitB a "str" = some (kitr a "str") := by cases h <;> decide +kernel
theorem kit_list {a : String} (h : Nm7 a) : kitB a "list" = some (kitr a "list") := by cases h <;> decide +kernel
theorem kit_tuple {a : String} (h : Nm7 a) : kitB a "tuple" = some (kitr a "tuple") := by cases h <;> decide +kernel
theorem kit_dict {a : String} (h : Nm7 a) : kitB a "dict" = some (kitr a "dict") := by cases h <;> decide +kernel
/-- isinstance(x, T), as a value -/
theorem ev_isi {K : Fr'} {σ : St} {H : Hp} {ta tb : TE} {x : V} {a b : String} {r : Bool} (ha : Ev ta σ H x) (hb : Ev tb σ H (.ty b)) (ht : ∀ H1, Ex H H1 → TyX K H1 x (.type a)) (hk : kitB a b = some r) : Ev (tCB (rIsi K) (tCons ta (tCons tb tNil))) σ H (.bl r) :=
  ev_cb (ea_cons ha (ea_cons hb ea_nil)) fun H1 e Q q => ⟨x, .ty b, .type a, .type b, r, rfl, .ty b, ht H1 e, kit_ty hk, q H1 (Ex.refl _)⟩
/-- isinstance(x, (T, U)) -/
theorem ev_isi2 {K : Fr'} {σ : St} {H : Hp} {ta tb tc : TE} {x : V} {a b c : String} {r s : Bool} (ha : Ev ta σ H x) (hb : Ev tb σ H (.ty b)) (hc : Ev tc σ H (.ty c)) (ht : ∀ H1, Ex H H1 → TyX K H1 x (.type a)) (hk : kitB a b = some r) (hk2 : kitB a c = some s) : Ev (tCB (rIsiT K) (tCons ta (tCons (tTup (tCons tb (tCons tc tNil))) tNil))) σ H (.bl (r || s)) := fun H1 e Q q =>
  ha H1 e _ fun H2 e2 => hb H2 (e.trans e2) _ fun H3 e3 => hc H3 ((e.trans e2).trans e3) _ fun H4 e4 => ⟨by show 2 ≤ sizeLine; decide, fun p hp => ⟨x, p, [.ty b, .ty c], .type a, [.type b, .type c], _, rfl, upd_same, .cons (.ty b) (.cons (.ty c) .nil), ht _ ((((e.trans e2).trans e3).trans e4).trans (Ex.new hp)),
    kitAny_cons (kit_ty hk) (fun hr => kitAny_cons (kit_ty hk2) (fun hs => by rw [hr, hs]; exact kitAny_nil) (fun hs => by rw [hs, Bool.or_true])) (fun hr => by rw [hr, Bool.true_or]), q _ (((e2.trans e3).trans e4).trans (Ex.new hp))⟩⟩
/-- what loops keep -/
structure RelOk (R : Hp → Hp → Prop) : Prop where
  ex : ∀ {H H'}, Ex H H' → R H H'
  tr : ∀ {H H1 H2}, R H H1 → R H1 H2 → R H H2
  mu : ∀ {H H' p o}, R H H' → H p = none → R H (upd H' p o)
  gr : ∀ {H H'}, R H H' → Gr H H'
theorem relEx : RelOk Ex := ⟨id, Ex.trans, Ex.mut, Gr.ex⟩
theorem relGr : RelOk Gr := ⟨Gr.ex, Gr.trans, Gr.mut, id⟩
/-- J goes over xs, as long as the heap keeps Gr -/
structure ItO (J : It) (xs : List V) (H : Hp) : Prop where
  go : ∀ H', Gr H H' → ∀ i, i < xs.length → J.go i H' ∧ ∀ x H2, J.yld i H' x H2 → H2 = H' ∧ xs[i]? = some x
  st : ∀ H', Gr H H' → J.stop xs.length H'
theorem ito_l {K : Fr'} {H : Hp} {a : Addr} {xs : List V} (h : SqL K H a xs) : ItO (Itl K a) xs H :=
  ⟨fun H' e i hi => ⟨⟨xs, xs[i], gr_l e h, List.getElem?_eq_getElem hi⟩, fun x H2 y => ⟨y.1, y.2 xs (gr_l e h)⟩⟩, fun H' e => ⟨xs, gr_l e h, Nat.le_refl _⟩⟩
theorem ito_t {K : Fr'} {H : Hp} {a : Addr} {xs : List V} (h : SqT K H a xs) : ItO (Itt K a) xs H :=
  ⟨fun H' e i hi => ⟨⟨xs, xs[i], gr_t e h, List.getElem?_eq_getElem hi⟩, fun x H2 y => ⟨y.1, y.2 xs (gr_t e h)⟩⟩, fun H' e => ⟨xs, gr_t e h, Nat.le_refl _⟩⟩
/-- a text's signs -/
def signs (x : Str) : List V := x.cps.toList.map fun c => V.str ⟨#[c]⟩
theorem ito_s {H : Hp} {x : Str} : ItO (Its x) (signs x) H := by
  have hl : (signs x).length = x.cps.size := by unfold signs; rw [List.length_map, Array.length_toList]
  refine ⟨fun H' e i hi => ⟨by rw [hl] at hi; exact hi, fun v H2 y => ⟨y.1, ?_⟩⟩, fun H' e => by rw [hl]; exact Nat.le_refl _⟩
  obtain ⟨c, h1, h2⟩ := y.2
  unfold signs
  rw [List.getElem?_map, Array.getElem?_toList, h1, h2]
  rfl
/-- 0, 1, .., n - 1 -/
def nums (n : Nat) : List V := (List.range n).map fun i => V.int (i : Nat)
theorem nums_len (n : Nat) : (nums n).length = n := by unfold nums; rw [List.length_map, List.length_range]
theorem ito_r {H : Hp} (n : Nat) : ItO (Itr 0 n) (nums n) H := by
  refine ⟨fun H' e i hi => ⟨by rw [nums_len] at hi; exact hi, fun v H2 y => ⟨y.1, ?_⟩⟩, fun H' e => by rw [nums_len]; exact Nat.le_refl _⟩
  rw [nums_len] at hi
  unfold nums
  rw [List.getElem?_map, List.getElem?_range hi, y.2, Int.zero_add]
  rfl
section
variable {R : Hp → Hp → Prop} {J : It} {xs : List V} {g : TG} {tt : TT} {te : TE} {tb : TS} {vs : List Nat} {σ : St} {H1 : Hp} {Dl : Addr} {Q : VK} {D : Ends}
/-- a comprehension's turns; P: by the turn, what is laid so far, the heap -/
def LcN (R : Hp → Hp → Prop) (H1 : Hp) (Dl : Addr) (P : Nat → List V → Hp → Prop) (i : Nat) (H : Hp) : Prop := R H1 H ∧ ∃ acc, H Dl = some (.lst acc) ∧ P i acc H
def LcPut (R : Hp → Hp → Prop) (H1 : Hp) (Dl : Addr) (P : Nat → List V → Hp → Prop) (i : Nat) (y : V) (H4 : Hp) : Prop := ∃ acc, H4 Dl = some (.lst acc) ∧ acc.length < sizeLine ∧ LcN R H1 Dl P i (upd H4 Dl (.lst (acc ++ [y])))
theorem lc_put {P : Nat → List V → Hp → Prop} {i : Nat} {y : V} {acc : List V} {H H4 : Hp} (hR : RelOk R) (hd : H1 Dl = none) (r : R H1 H) (hl : H Dl = some (.lst acc)) (e : R H H4) (hz : acc.length < sizeLine) (p : P i (acc ++ [y]) (upd H4 Dl (.lst (acc ++ [y])))) : LcPut R H1 Dl P i y H4 :=
  ⟨acc, hR.gr e _ _ hl (fun _ z => by cases z) (fun _ z => by cases z), hz, hR.mu (hR.tr r e) hd, _, upd_same, p⟩
theorem lc_skip {P : Nat → List V → Hp → Prop} {i : Nat} {acc : List V} {H H3 : Hp} (hR : RelOk R) (r : R H1 H) (hl : H Dl = some (.lst acc)) (e : R H H3) (p : P i acc H3) : LcN R H1 Dl P i H3 :=
  ⟨hR.tr r e, acc, hR.gr e _ _ hl (fun _ z => by cases z) (fun _ z => by cases z), p⟩
theorem lcO (hR : RelOk R) (o : ItO J xs H1) (hd : H1 Dl = none) (P : Nat → List V → Hp → Prop) (h0 : P 0 [] (upd H1 Dl (.lst [])))
    (hs : ∀ i x acc H, xs[i]? = some x → R H1 H → H Dl = some (.lst acc) → P i acc H → g x (wipe σ vs) H fun σ2 H2 => wipe σ2 vs = wipe σ vs ∧ tt σ2 H2 fun b H3 =>
      if b = true then te σ2 H3 fun y H4 => LcPut R H1 Dl P (i + 1) y H4 else LcN R H1 Dl P (i + 1) H3)
    (hq : ∀ acc H, R H1 H → H Dl = some (.lst acc) → P xs.length acc H → Q (.ref Dl) H) :
    ∃ W : Nat → Nat → Hp → Prop, (∃ m, W 0 m (upd H1 Dl (.lst []))) ∧ ∀ i m H, W i m H →
      (J.stop i H ∧ Q (.ref Dl) H) ∨ (J.go i H ∧ ∃ Nx : Hp → Prop, (∀ H', Nx H' → ∃ m', m' < m ∧ W (i + 1) m' H') ∧ ∀ x H', J.yld i H x H' → g x (wipe σ vs) H' fun σ2 H2 => wipe σ2 vs = wipe σ vs ∧ tt σ2 H2 fun b H3 =>
        if b = true then te σ2 H3 fun y H4 => ∃ acc, H4 Dl = some (.lst acc) ∧ acc.length < sizeLine ∧ Nx (upd H4 Dl (.lst (acc ++ [y]))) else Nx H3) := by
  refine ⟨fun i m H => m = xs.length - i ∧ i ≤ xs.length ∧ LcN R H1 Dl P i H, ⟨_, rfl, Nat.zero_le _, hR.ex (Ex.new hd), [], upd_same, h0⟩, fun i m H w => ?_⟩
  obtain ⟨hm, hi, r, acc, hl, p⟩ := w
  rcases Nat.lt_or_eq_of_le hi with hlt | heq
  · refine .inr ⟨(o.go H (hR.gr r) i hlt).1, LcN R H1 Dl P (i + 1), fun H' n => ⟨xs.length - (i + 1), by omega, rfl, hlt, n⟩, fun x H' y => ?_⟩
    obtain ⟨rfl, hx⟩ := (o.go H (hR.gr r) i hlt).2 x H' y
    exact hs i x acc H' hx r hl p
  · subst heq
    exact .inl ⟨o.st H (hR.gr r), hq acc H r hl p⟩
/-- .. of a pure clause: the values that the turns give -/
def mapF (f : V → Bool) (v : V → V) (xs : List V) : List V := (xs.filter f).map v
theorem mapF_len (f : V → Bool) (v : V → V) (xs : List V) : (mapF f v xs).length ≤ xs.length := by
  unfold mapF; rw [List.length_map]; exact List.length_filter_le _ _
theorem take_next {α : Type} {xs : List α} {i : Nat} {x : α} (h : xs[i]? = some x) : xs.take (i + 1) = xs.take i ++ [x] := by
  rw [List.take_succ, h]; rfl
theorem el_lcO {wi : TI} {j : Nat} (f : V → Bool) (v : V → V) (hw : ∀ H2, Ex H1 H2 → ∀ Rk : It → Hp → Prop, (∀ J H3, Ex H2 H3 → ItO J xs H3 → Rk J H3) → wi σ H2 Rk) (hz : xs.length < sizeLine) (hwp : ∀ x, wipe ((wipe σ vs).set j (some x)) vs = wipe σ vs)
    (ht : ∀ x H2, x ∈ xs → Ex H1 H2 → EvT tt ((wipe σ vs).set j (some x)) H2 (f x)) (he : ∀ x H2, x ∈ xs → f x = true → Ex H1 H2 → Ev te ((wipe σ vs).set j (some x)) H2 (v x)) : EvL (tLc wi (gName j) tt te vs) σ H1 (mapF f v xs) := by
  intro H2 e2 Q q
  refine hw H2 e2 _ fun J H3 e3 o => fun Dl hd => lcO relEx o hd (fun i acc H => acc = mapF f v (xs.take i)) rfl (fun i x acc H hx r hl p => ?_) (fun acc H r hl p => ?_)
  · refine ⟨hwp x, ?_⟩
    have hm : x ∈ xs := List.mem_of_getElem? hx
    refine ht x H hm ((e2.trans e3).trans r) H (Ex.refl _) _ fun H4 e4 => ?_
    cases hf : f x with
    | true =>
      rw [if_pos rfl]
      refine he x H4 hm hf (((e2.trans e3).trans r).trans e4) H4 (Ex.refl _) _ fun H5 e5 => lc_put relEx hd r hl (e4.trans e5) ?_ ?_
      · rw [p]
        refine Nat.lt_of_le_of_lt (mapF_len _ _ _) (Nat.lt_of_le_of_lt (List.length_take_le _ _) ?_)
        have : i < xs.length := (List.getElem?_eq_some_iff.mp hx).1
        omega
      · rw [p, take_next hx]
        unfold mapF
        rw [List.filter_append, List.map_append, List.filter_cons, hf]
        rfl
    | false =>
      rw [if_neg Bool.false_ne_true]
      refine lc_skip relEx r hl e4 ?_
      rw [p, take_next hx]
      unfold mapF
      rw [List.filter_append, List.filter_cons, hf]
      simp
  · rw [p, List.take_length] at hl
    exact q Dl H (fresh_back e3 hd) (e3.trans r) hl
/-- a for's turns -/
theorem forO (o : ItO J xs H1) (Pv : Nat → St → Hp → Prop) (h0 : Pv 0 σ H1) (hr : ∀ i σ H, Pv i σ H → Gr H1 H)
    (hs : ∀ i x σ H, xs[i]? = some x → Pv i σ H → g x σ H fun σ2 H2 => tb { D with nx := Pv (i + 1), ct := Pv (i + 1), bk := D.nx } σ2 H2) (hd : ∀ σ H, Pv xs.length σ H → D.nx σ H) :
    ∃ W : Nat → Nat → St → Hp → Prop, (∃ m, W 0 m σ H1) ∧ ∀ i m σ H, W i m σ H →
      (J.stop i H ∧ D.nx σ H) ∨ (J.go i H ∧ ∃ N : St → Hp → Prop, (∀ σ' H', N σ' H' → ∃ m', m' < m ∧ W (i + 1) m' σ' H') ∧ ∀ x H', J.yld i H x H' → g x σ H' fun σ2 H2 => tb { D with nx := N, ct := N, bk := D.nx } σ2 H2) := by
  refine ⟨fun i m σ H => m = xs.length - i ∧ i ≤ xs.length ∧ Pv i σ H, ⟨_, rfl, Nat.zero_le _, h0⟩, fun i m σ H w => ?_⟩
  obtain ⟨hm, hi, p⟩ := w
  rcases Nat.lt_or_eq_of_le hi with hlt | heq
  · refine .inr ⟨(o.go H (hr _ _ _ p) i hlt).1, Pv (i + 1), fun σ' H' n => ⟨xs.length - (i + 1), by omega, rfl, hlt, n⟩, fun x H' y => ?_⟩
    obtain ⟨rfl, hx⟩ := (o.go H (hr _ _ _ p) i hlt).2 x H' y
    exact hs i x σ H' hx p
  · subst heq
    exact .inl ⟨o.st H (hr _ _ _ p), hd σ H p⟩
end
end Wh
/-! ## WhSrc -/
set_option Elab.async false
set_option linter.all false
set_option maxRecDepth 100000
set_option maxHeartbeats 4000000
/-! What a loop goes over; the checks' kit. -/
namespace Wh
open PySem PySem.Spec PyProof.Rows L2 He Evl
/-- over a list or a tuple -/
def iSeq (K : PySem.W.Frag) (tl : TE) : TI := fun σ H R => tl σ H fun x H1 => ∃ a, x = .ref a ∧ (((∃ xs, SqL K H1 a xs) ∧ R (Itl K a) H1) ∨ ((∃ xs, SqT K H1 a xs) ∧ R (Itt K a) H1))
theorem pi_seq {X : Cx} {tg l : Expr} {tl : TE} (hl : PE X l tl) : PI X tg l (iSeq X.K tl) := by
  have hL := pi_list (X := X) (tg := tg) hl
  have hT := pi_tup (X := X) (tg := tg) hl
  refine ⟨fun pins s σ H R I h => ?_⟩
  refine thn (hl.run pins s σ H _ I h) fun v s1 ⟨x, H1, I1, r1, q1⟩ => ?_
  obtain ⟨a, e, q⟩ := q1
  subst e
  cases r1
  rcases q with ⟨⟨xs, hq⟩, q⟩ | ⟨⟨xs, hq⟩, q⟩
  · obtain ⟨its, rv, p, hz⟩ := I1.list hq
    refine wpAny_pyIter_list p.isList ?_
    refine ⟨s1.heap.objs.size, [s1.heap.objs.size], _, _, H1, rfl, I1.kept (t' := s1.toks) fun b o e => Heap.get?_push_of_some _ e, turn_list a _, ⟨_, Heap.get?_push_size _ rfl, rfl, rfl⟩, fun b hb => ?_, q⟩
    have e : b = s1.heap.objs.size := by simpa using hb
    subst e
    exact I1.fpOk (Nat.le_refl _) (I1.hok.fresh (Nat.le_refl _))
  · obtain ⟨its, rv, p, hz⟩ := I1.tuple hq
    refine wpAny_pyIter_tuple (show s1.heap.IsTuple a its.toArray from p) ?_
    refine ⟨s1.heap.objs.size, [s1.heap.objs.size], _, _, H1, rfl, I1.kept (t' := s1.toks) fun b o e => Heap.get?_push_of_some _ e, turn_tuple a _, ⟨_, Heap.get?_push_size _ rfl, rfl, rfl⟩, fun b hb => ?_, q⟩
    have e : b = s1.heap.objs.size := by simpa using hb
    subst e
    exact I1.fpOk (Nat.le_refl _) (I1.hok.fresh (Nat.le_refl _))
theorem call_lenK {X : Cx} {K : Fr'} (e : X.K = K) : CallR X (.builtin "len") (fun xs H Q => ∃ x n, xs = [x] ∧ LenV K x H n ∧ Q (.int n) H) := e ▸ call_len
theorem cr_allK {X : Cx} {K : Fr'} (e : X.K = K) (hc : X.calm = true) : CallR X (.builtin "all") (rAll K) := e ▸ cr_all hc
theorem call_isiK1 {X : Cx} {K : Fr'} (e : X.K = K) : CallR X (.builtin "isinstance") (rIsi K) := e ▸ call_isi
theorem call_isiTK {X : Cx} {K : Fr'} (e : X.K = K) : CallR X (.builtin "isinstance") (rIsiT K) := e ▸ call_isiT
theorem call_tuple_ofK {X : Cx} {K : Fr'} (e : X.K = K) : CallR X (.type "tuple") (fun xs H Q => ∃ p ys, xs = [.ref p] ∧ ((SqL K H p ys ∧ ∀ l, H l = none → Q (.ref l) (upd H l (.tup ys))) ∨ (SqT K H p ys ∧ Q (.ref p) H))) := e ▸ call_tuple_of
theorem call_list_ofK {X : Cx} {K : Fr'} (e : X.K = K) : CallR X (.type "list") (fun xs H Q => ∃ p ys, xs = [.ref p] ∧ (SqL K H p ys ∨ SqT K H p ys) ∧ ∀ l, H l = none → Q (.ref l) (upd H l (.lst ys))) := e ▸ call_list_of
theorem ix_listK {X : Cx} {K : Fr'} (e : X.K = K) : IxR X (rIxL K) := e ▸ ix_list
theorem ix_tupK {X : Cx} {K : Fr'} (e : X.K = K) : IxR X (rIxT K) := e ▸ ix_tup
theorem sl_listK {X : Cx} {K : Fr'} (e : X.K = K) : SlR X (rSlL K) := e ▸ sl_list
theorem sl_tupK {X : Cx} {K : Fr'} (e : X.K = K) : SlR X (rSlT K) := e ▸ sl_tup
theorem op_in_seqK {X : Cx} {K : Fr'} (e : X.K = K) : OpR X (compareOp .In) (rIn K false) := e ▸ op_in_seq
theorem op_notIn_seqK {X : Cx} {K : Fr'} (e : X.K = K) : OpR X (compareOp .NotIn) (rIn K true) := e ▸ op_notIn_seq
theorem pi_listK {X : Cx} {tg l : Expr} {tl : TE} {K : Fr'} (e : X.K = K) (hl : PE X l tl) : PI X tg l (iList K tl) := e ▸ pi_list hl
theorem pi_tupK {X : Cx} {tg l : Expr} {tl : TE} {K : Fr'} (e : X.K = K) (hl : PE X l tl) : PI X tg l (iTup K tl) := e ▸ pi_tup hl
theorem pi_seqK {X : Cx} {tg l : Expr} {tl : TE} {K : Fr'} (e : X.K = K) (hl : PE X l tl) : PI X tg l (iSeq K tl) := e ▸ pi_seq hl
theorem op_eqDK {X : Cx} {K : Fr'} (e : X.K = K) (hu : X.A.units + 64 < cLine) : OpR X (compareOp .Eq) (rEqD K) := e ▸ op_eqD hu
theorem op_neDK {X : Cx} {K : Fr'} (e : X.K = K) (hu : X.A.units + 64 < cLine) : OpR X (compareOp .NotEq) (rNeD K) := e ▸ op_neD hu
section
variable {K : Fr'} {σ : St} {H1 : Hp} {tl : TE} {a : Addr} {xs : List V}
/-- a source that stands -/
def Src (wi : TI) (σ : St) (H1 : Hp) (xs : List V) : Prop := ∀ H2, Ex H1 H2 → ∀ Rk : It → Hp → Prop, (∀ J H3, Ex H2 H3 → ItO J xs H3 → Rk J H3) → wi σ H2 Rk
theorem src_l (h : Ev tl σ H1 (.ref a)) (hs : SqL K H1 a xs) : Src (iList K tl) σ H1 xs := fun H2 e Rk k => h H2 e _ fun H3 e3 => ⟨a, rfl, ⟨xs, ex_l (e.trans e3) hs⟩, k _ _ e3 (ito_l (ex_l (e.trans e3) hs))⟩
theorem src_nl (h : EvL tl σ H1 xs) : Src (iList K tl) σ H1 xs := fun H2 e Rk k => h H2 e _ fun p H3 hp e3 h3 => ⟨p, rfl, ⟨xs, sq_of h3⟩, k _ _ e3 (ito_l (sq_of h3))⟩
theorem src_t (h : Ev tl σ H1 (.ref a)) (hs : SqT K H1 a xs) : Src (iTup K tl) σ H1 xs := fun H2 e Rk k => h H2 e _ fun H3 e3 => ⟨a, rfl, ⟨xs, ex_t (e.trans e3) hs⟩, k _ _ e3 (ito_t (ex_t (e.trans e3) hs))⟩
theorem src_s {x : Str} (h : Ev tl σ H1 (.str x)) : Src (iStr tl) σ H1 (signs x) := fun H2 e Rk k => h H2 e _ fun H3 e3 => ⟨x, rfl, k _ _ e3 ito_s⟩
theorem src_sq (h : Ev tl σ H1 (.ref a)) (hs : SqL K H1 a xs ∨ SqT K H1 a xs) : Src (iSeq K tl) σ H1 xs := fun H2 e Rk k => h H2 e _ fun H3 e3 => ⟨a, rfl, by
  rcases hs with hs | hs
  · exact .inl ⟨⟨xs, ex_l (e.trans e3) hs⟩, k _ _ e3 (ito_l (ex_l (e.trans e3) hs))⟩
  · exact .inr ⟨⟨xs, ex_t (e.trans e3) hs⟩, k _ _ e3 (ito_t (ex_t (e.trans e3) hs))⟩⟩
theorem ev_chain {r r' : R2} {ta tb tc : TE} {x y z : V} {b c : Bool} (ha : Ev ta σ H1 x) (hb : Ev tb σ H1 y) (hr : RV r x y H1 (.bl b)) (hc : b = true → Ev tc σ H1 z) (hr' : b = true → RV r' y z H1 (.bl c)) : Ev (tChain r r' ta tb tc) σ H1 (.bl (b && c)) := fun H2 e Q q =>
  ha H2 e _ fun H3 e3 => hb H3 (e.trans e3) _ fun H4 e4 => hr H4 ((e.trans e3).trans e4) _ fun H5 e5 => ⟨b, rfl, by
    cases hbb : b with
    | true =>
      rw [if_pos rfl]
      rw [hbb] at q
      exact hc hbb H5 (((e.trans e3).trans e4).trans e5) _ fun H6 e6 => hr' hbb H6 ((((e.trans e3).trans e4).trans e5).trans e6) _ fun H7 e7 => q H7 ((((e3.trans e4).trans e5).trans e6).trans e7)
    | false =>
      rw [if_neg Bool.false_ne_true]
      rw [hbb] at q
      exact q H5 ((e3.trans e4).trans e5)⟩
/-- all([..]) -/
theorem ev_all {te : TE} {bs : List Bool} (h : EvL te σ H1 (bs.map V.bl)) : Ev (tCB (rAll K) (tCons te tNil)) σ H1 (.bl (bs.all id)) := fun H2 e Q q => h H2 e _ fun p H3 _ e3 h3 => ⟨p, bs, rfl, sq_of h3, q H3 e3⟩
/-- all(f(x) for x in xs), no clause -/
theorem ev_allO {wi : TI} {j : Nat} {te : TE} {vs : List Nat} (f : V → Bool) (hw : Src wi σ H1 xs) (hz : xs.length < sizeLine) (hwp : ∀ x, wipe ((wipe σ vs).set j (some x)) vs = wipe σ vs)
    (he : ∀ x H2, x ∈ xs → Ex H1 H2 → Ev te ((wipe σ vs).set j (some x)) H2 (.bl (f x))) : Ev (tCB (rAll K) (tCons (tLc wi (gName j) tYes te vs) tNil)) σ H1 (.bl (xs.all f)) := by
  have h := el_lcO (tt := tYes) (fun _ => true) (fun x => V.bl (f x)) hw hz hwp (fun x H2 _ _ => fun H3 _ Q q => q H3 (Ex.refl _)) (fun x H2 hx _ e => he x H2 hx e)
  have e1 : mapF (fun _ => true) (fun x => V.bl (f x)) xs = (xs.map f).map V.bl := by
    unfold mapF
    rw [List.filter_eq_self.mpr (fun _ _ => rfl), List.map_map]
    rfl
  rw [e1] at h
  refine ev_is (ev_all h) ?_
  rw [List.all_map]
  rfl
theorem dpa_at {H : Hp} : ∀ {xs : List V} {ds : List PyData}, DpAll K H xs ds → ∀ {i : Nat} {x : V}, xs[i]? = some x → ∃ d, ds[i]? = some d ∧ Dp K H x d
  | _, _, .nil, i, x, h => by simp at h
  | _, _, .cons h1 h2, 0, x, h => by simp at h; subst h; exact ⟨_, rfl, h1⟩
  | _, _, .cons h1 h2, i + 1, x, h => by simp at h; exact dpa_at h2 h
theorem dpa_len {H : Hp} : ∀ {xs : List V} {ds : List PyData}, DpAll K H xs ds → xs.length = ds.length
  | _, _, .nil => rfl
  | _, _, .cons _ h2 => congrArg (· + 1) (dpa_len h2)
/-- [f(x) for x in xs], told by the data -/
theorem el_mapD {wi : TI} {j : Nat} {te : TE} {vs : List Nat} {ds : List PyData} (v : PyData → V) (hw : Src wi σ H1 xs) (hd : DpAll K H1 xs ds) (hz : xs.length < sizeLine) (hwp : ∀ x : V, wipe ((wipe σ vs).set j (some x)) vs = wipe σ vs)
    (he : ∀ x d H2, d ∈ ds → Dp K H2 x d → Ex H1 H2 → Ev te ((wipe σ vs).set j (some x)) H2 (v d)) : EvL (tLc wi (gName j) tYes te vs) σ H1 (ds.map v) := by
  intro H2 e2 Q q
  refine hw H2 e2 _ fun J H3 e3 o => fun Dl hf => lcO relEx o hf (fun i acc H => acc = (ds.take i).map v) (by simp) (fun i x acc H hx r hl p => ?_) (fun acc H r hl p => ?_)
  · refine ⟨hwp x, ?_⟩
    obtain ⟨d, hdi, hdp⟩ := dpa_at hd hx
    refine he x d H (List.mem_of_getElem? hdi) (dp_ex (K := K) ((e2.trans e3).trans r) hdp) ((e2.trans e3).trans r) H (Ex.refl _) _ fun H4 e4 => lc_put relEx hf r hl e4 ?_ ?_
    · rw [p, List.length_map]
      have h1 : (ds.take i).length ≤ i := List.length_take_le _ _
      have h2 : i < xs.length := (List.getElem?_eq_some_iff.mp hx).1
      omega
    · rw [p, take_next hdi, List.map_append]
      rfl
  · rw [p, dpa_len hd, List.take_length] at hl
    exact q Dl H (fresh_back e3 hf) (e3.trans r) hl
theorem ev_allD {wi : TI} {j : Nat} {te : TE} {vs : List Nat} {ds : List PyData} (f : PyData → Bool) (hw : Src wi σ H1 xs) (hd : DpAll K H1 xs ds) (hz : xs.length < sizeLine) (hwp : ∀ x : V, wipe ((wipe σ vs).set j (some x)) vs = wipe σ vs)
    (he : ∀ x d H2, d ∈ ds → Dp K H2 x d → Ex H1 H2 → Ev te ((wipe σ vs).set j (some x)) H2 (.bl (f d))) : Ev (tCB (rAll K) (tCons (tLc wi (gName j) tYes te vs) tNil)) σ H1 (.bl (ds.all f)) := by
  have h := el_mapD (fun d => V.bl (f d)) hw hd hz hwp he
  have e1 : ds.map (fun d => V.bl (f d)) = (ds.map f).map V.bl := by rw [List.map_map]; rfl
  rw [e1] at h
  refine ev_is (ev_all h) ?_
  rw [List.all_map]
  rfl
theorem ev_m1 {r : V → List V → Hp → VK → Prop} {to te : TE} {a : Str} {y z : V} (ho : Ev to σ H1 (.str a)) (he : Ev te σ H1 y) (hr : ∀ H2, Ex H1 H2 → ∀ Q : VK, Q z H2 → r (.str a) [y] H2 Q) : Ev (tM1 r to te) σ H1 z := fun H2 e Q q =>
  ho H2 e _ fun H3 e3 => ⟨⟨a, rfl⟩, he H3 (e.trans e3) _ fun H4 e4 => hr H4 ((e.trans e3).trans e4) Q (q H4 (e3.trans e4))⟩
/-- .. whose argument is a new list -/
theorem ev_m1L {r : V → List V → Hp → VK → Prop} {to te : TE} {a : Str} {z : V} {ys : List V} (ho : Ev to σ H1 (.str a)) (he : EvL te σ H1 ys) (hr : ∀ p H2, H2 p = some (.lst ys) → Ex H1 H2 → ∀ Q : VK, Q z H2 → r (.str a) [.ref p] H2 Q) : Ev (tM1 r to te) σ H1 z := fun H2 e Q q =>
  ho H2 e _ fun H3 e3 => ⟨⟨a, rfl⟩, he H3 (e.trans e3) _ fun p H4 _ e4 h4 => hr p H4 h4 ((e.trans e3).trans e4) Q (q H4 (e3.trans e4))⟩
theorem el_m1 {r : V → List V → Hp → VK → Prop} {to te : TE} {a : Str} {y : V} {ys : List V} (ho : Ev to σ H1 (.str a)) (he : Ev te σ H1 y) (hr : ∀ H2, Ex H1 H2 → ∀ Q : VK, (∀ p, H2 p = none → Q (.ref p) (upd H2 p (.lst ys))) → r (.str a) [y] H2 Q) : EvL (tM1 r to te) σ H1 ys := fun H2 e Q q =>
  ho H2 e _ fun H3 e3 => ⟨⟨a, rfl⟩, he H3 (e.trans e3) _ fun H4 e4 => hr H4 ((e.trans e3).trans e4) Q fun p hp => q p _ (fresh_back (e3.trans e4) hp) ((e3.trans e4).trans (Ex.new hp)) upd_same⟩
theorem ev_eqD {ta tb : TE} {x y : V} {d e : PyData} (ha : Ev ta σ H1 x) (hb : Ev tb σ H1 y) (hd : Dp K H1 x d) (he : Dp K H1 y e) (s1 : SeqAt.shaped d = true) (s2 : SeqAt.shaped e = true) : Ev (tOp (rEqD K) ta tb) σ H1 (.bl (PyData.eqv d e)) :=
  ev_op ha hb fun H2 e2 Q q => ⟨d, e, dp_ex e2 hd, dp_ex e2 he, s1, s2, q H2 (Ex.refl _)⟩
/-- tuple(a new list) -/
theorem eu_tupleL {te : TE} (h : EvL te σ H1 xs) : EvU (tCB (fun xs H Q => ∃ p ys, xs = [.ref p] ∧ ((SqL K H p ys ∧ ∀ l, H l = none → Q (.ref l) (upd H l (.tup ys))) ∨ (SqT K H p ys ∧ Q (.ref p) H))) (tCons te tNil)) σ H1 xs := fun H2 e Q q =>
  h H2 e _ fun p H3 _ e3 h3 => ⟨p, xs, rfl, .inl ⟨sq_of h3, fun l hl => q l _ (fresh_back e3 hl) (e3.trans (Ex.new hl)) upd_same⟩⟩
/-- a new tuple that comes back -/
def RetT (xs : List V) (H : Hp) (Q : VK) : Prop := ∀ p H', Ex H H' → H' p = some (.tup xs) → Q (.ref p) H'
/-- an own error that leaves -/
def Rse (E : XK) (C : Addr) (fs : List (Str × V)) (H : Hp) : Prop := ∀ d H', Ex H H' → H' d = some (.xd fs) → E (.ref C) (some d) H'
theorem rse1 {E : XK} {C : Addr} {x : Str} {te : TE} {v : V} {H : Hp} (h : Ev te σ H1 v) (e : Ex H H1) (r : Rse E C [(x, v)] H) : tErr1 C x (tCons te tNil) σ H1 fun cls d H' => E cls d H' :=
  h H1 (Ex.refl _) _ fun H2 e2 => ⟨v, rfl, fun d hd => r d _ ((e.trans e2).trans (Ex.new hd)) upd_same⟩
theorem rse2 {E : XK} {C : Addr} {x y : Str} {te tu : TE} {v u : V} {H : Hp} (h : Ev te σ H1 v) (h2 : Ev tu σ H1 u) (e : Ex H H1) (r : Rse E C [(x, v), (y, u)] H) : tErr2 C x y (tCons te (tCons tu tNil)) σ H1 fun cls d H' => E cls d H' :=
  h H1 (Ex.refl _) _ fun H2 e2 => h2 H2 e2 _ fun H3 e3 => ⟨v, u, rfl, fun d hd => r d _ (((e.trans e2).trans e3).trans (Ex.new hd)) upd_same⟩
end
end Wh
/-! ## WhPen -/
set_option Elab.async false
set_option linter.all false
set_option maxRecDepth 100000
set_option maxHeartbeats 4000000
/-! The pen: a dict with a list of numbers, a place, what is left. -/
namespace Wh
open PySem PySem.Spec PyProof.Rows L2 He Evl
def penD (c : Addr) (at_ lf : Int) : List (Key × V) := [(Sum.inr "cells", .ref c), (Sum.inr "at", .int at_), (Sum.inr "left", .int lf)]
theorem ne1 : ¬ (Sum.inr ("cells" : Str) : Key) = Sum.inr ("at" : Str) := by decide +kernel
theorem ne2 : ¬ (Sum.inr ("cells" : Str) : Key) = Sum.inr ("left" : Str) := by decide +kernel
theorem ne3 : ¬ (Sum.inr ("at" : Str) : Key) = Sum.inr ("left" : Str) := by decide +kernel
section
variable {c : Addr} {a l x : Int} {v : V}
theorem pg_cells : valV (penD c a l) (Sum.inr "cells") = some (.ref c) := valV_pos rfl
theorem pg_at : valV (penD c a l) (Sum.inr "at") = some (.int a) := (valV_neg ne1).trans (valV_pos rfl)
theorem pg_left : valV (penD c a l) (Sum.inr "left") = some (.int l) := (valV_neg ne2).trans ((valV_neg ne3).trans (valV_pos rfl))
theorem pp_at : putK (penD c a l) (Sum.inr "at") (.int x) = penD c x l := by
  unfold putK penD
  have n3 : ¬ (Sum.inr ("left" : Str) : Key) = Sum.inr ("at" : Str) := fun h => ne3 h.symm
  simp only [List.any_cons, List.any_nil, List.map_cons, List.map_nil, decide_eq_false ne1, decide_eq_false n3, if_neg ne1, if_neg n3]
  simp
theorem pp_left : putK (penD c a l) (Sum.inr "left") (.int x) = penD c a x := by
  unfold putK penD
  simp only [List.any_cons, List.any_nil, List.map_cons, List.map_nil, decide_eq_false ne2, decide_eq_false ne3, if_neg ne2, if_neg ne3]
  simp
theorem pen_new : mergeK [] [((Sum.inr "cells" : Key), V.ref c), (Sum.inr "at", .int a), (Sum.inr "left", .int l)] = penD c a l := by
  have n1 : ¬ (Sum.inr ("at" : Str) : Key) = Sum.inr ("cells" : Str) := fun h => ne1 h.symm
  unfold mergeK
  show putK (putK (putK ([] : List (Key × V)) (Sum.inr "cells") (V.ref c)) (Sum.inr "at") (V.int a)) (Sum.inr "left") (V.int l) = _
  rw [putK_new (kvs := ([] : List (Key × V))) (V.ref c) rfl, List.nil_append, putK_new (kvs := [((Sum.inr "cells" : Key), V.ref c)]) (V.int a) (valV_neg ne1), putK_new (V.int l) (show valV ([((Sum.inr "cells" : Key), V.ref c)] ++ [((Sum.inr "at" : Key), V.int a)]) (Sum.inr "left") = none from (valV_neg ne2).trans (valV_neg ne3))]
  rfl
end
/-- all but the dict at p stand as they stood -/
def Gp (p : Addr) (H H' : Hp) : Prop := Gr H H' ∧ ∀ a o, a ≠ p → H a = some o → H' a = some o
theorem Gp.refl (p : Addr) (H : Hp) : Gp p H H := ⟨Gr.refl H, fun _ _ _ h => h⟩
theorem Gp.trans {p : Addr} {H H1 H2 : Hp} (a : Gp p H H1) (b : Gp p H1 H2) : Gp p H H2 := ⟨a.1.trans b.1, fun x o n h => b.2 x o n (a.2 x o n h)⟩
theorem Gp.ex {p : Addr} {H H' : Hp} (a : Ex H H') : Gp p H H' := ⟨Gr.ex a, fun x o _ h => a x o h⟩
theorem Gp.mu {p q : Addr} {H H' : Hp} {o : HO} (e : Gp p H H') (h : H q = none) : Gp p H (upd H' q o) := ⟨e.1.mut h, fun a u n ha => by
  have hne : a ≠ q := fun z => by rw [z, h] at ha; cases ha
  rw [upd_ne hne]
  exact e.2 a u n ha⟩
theorem Gp.dct {p : Addr} {H H' : Hp} {kvs : List (Key × V)} {o : HO} (e : Gp p H H') (h : H p = some (.dK kvs)) : Gp p H (upd H' p o) := ⟨e.1.dct h, fun a u n ha => by rw [upd_ne n]; exact e.2 a u n ha⟩
theorem relGp (p : Addr) : RelOk (Gp p) := ⟨Gp.ex, Gp.trans, Gp.mu, fun h => h.1⟩
/-- a pen that has drawn at most n numbers -/
def PenAt (K : Fr') (H : Hp) (p pc : Addr) (n : Nat) : Prop := ∃ (a l : Int) (ns : List Int), H p = some (.dK (penD pc a l)) ∧ H pc = some (.lst (ns.map V.int)) ∧ ns.length ≤ 63 ∧ 0 ≤ a ∧ a ≤ n ∧ 0 ≤ l
theorem PenAt.ex {K : Fr'} {H H' : Hp} {p pc : Addr} {n : Nat} (h : PenAt K H p pc n) (e : Ex H H') : PenAt K H' p pc n := by
  obtain ⟨a, l, ns, h1, h2, h3⟩ := h
  exact ⟨a, l, ns, e _ _ h1, e _ _ h2, h3⟩
theorem PenAt.mono {K : Fr'} {H : Hp} {p pc : Addr} {m n : Nat} (h : PenAt K H p pc m) (e : m ≤ n) : PenAt K H p pc n := by
  obtain ⟨a, l, ns, h1, h2, h3, h4, h5, h6⟩ := h
  exact ⟨a, l, ns, h1, h2, h3, h4, by omega, h6⟩
/-- an object other than a dict may change beside it (a list that grows) -/
theorem PenAt.lst {K : Fr'} {H : Hp} {p pc q : Addr} {n : Nat} {xs : List V} (h : PenAt K H p pc n) (hq : H q = none) : PenAt K (upd H q (.lst xs)) p pc n := h.ex (Ex.new hq)
theorem PenAt.dk {K : Fr'} {H : Hp} {p pc : Addr} {n : Nat} (h : PenAt K H p pc n) : ∃ kvs, H p = some (.dK kvs) := by
  obtain ⟨a, l, ns, h1, _⟩ := h
  exact ⟨_, h1⟩
/-- a list beside the pen's cells grows -/
theorem PenAt.grow {K : Fr'} {H : Hp} {p pc q : Addr} {n : Nat} {xs ys : List V} (h : PenAt K H p pc n) (hq : H q = some (.lst xs)) (hc : pc ≠ q) : PenAt K (upd H q (.lst ys)) p pc n := by
  obtain ⟨a, l, ns, h1, h2, h3⟩ := h
  have hp : p ≠ q := fun z => by rw [z, hq] at h1; cases h1
  exact ⟨a, l, ns, (upd_ne hp).trans h1, (upd_ne hc).trans h2, h3⟩
theorem PenAt.ne {K : Fr'} {H : Hp} {p pc q : Addr} {n : Nat} (h : PenAt K H p pc n) (hq : H q = none) : pc ≠ q := fun z => by
  obtain ⟨a, l, ns, h1, h2, _⟩ := h
  rw [z, hq] at h2
  cases h2
section
variable {K : Fr'} {σ : St} {H : Hp} {D : Ends} {tz : TS} {td ty tv te : TE} {p : Addr} {v : V} {kvs : List (Key × V)} {k : Key}
theorem ev_dget (hd : Ev td σ H (.ref p)) (hy : Ev ty σ H (kV k)) (h : H p = some (.dK kvs)) (hv : valV kvs k = some v) : Ev (tDGet td ty) σ H v := fun H1 e Q q =>
  hd H1 e _ fun H2 e2 => hy H2 (e.trans e2) _ fun H3 e3 => ⟨p, v, rfl, by rw [← hv]; exact DGet.k (e3 _ _ (e2 _ _ (e _ _ h))), q H3 (e2.trans e3)⟩
theorem q_dput (hv : Ev tv σ H v) (hd : Ev td σ H (.ref p)) (hy : Ev ty σ H (kV k)) (h : H p = some (.dK kvs)) (hl : kvs.length ≤ 1000) (q : ∀ H1, Ex H H1 → tz D σ (upd H1 p (.dK (putK kvs k v)))) : tSeq (sDPut td ty tv) tz D σ H :=
  hv H (Ex.refl _) _ fun H1 e1 => hd H1 e1 _ fun H2 e2 => hy H2 (e1.trans e2) _ fun H3 e3 => ⟨p, _, rfl, DPut.k (e3 _ _ (e2 _ _ (e1 _ _ h))) (Nat.lt_of_le_of_lt hl (by decide)), q H3 ((e1.trans e2).trans e3)⟩
theorem q_par {i j : Nat} {ta : TA} {x y : V} (h : EvA ta σ H [x, y]) (q : ∀ H1, Ex H H1 → tz D ((σ.set i (some x)).set j (some y)) H1) : tSeq (tPar i j ta) tz D σ H :=
  h H (Ex.refl _) _ fun H1 e1 => ⟨x, y, rfl, q H1 e1⟩
theorem q_asgE {i : Nat} (P : V → Prop) (h : ∃ v, P v ∧ Ev te σ H v) (q : ∀ v, P v → ∀ H1, Ex H H1 → tz D (σ.set i (some v)) H1) : tSeq (tAsg te (gName i)) tz D σ H := by
  obtain ⟨v, hp, h⟩ := h
  exact q_asg h fun H1 e => q v hp H1 e
theorem ev_int1 {i : Int} (h : Ev te σ H (.int i)) : Ev (tCB (fun xs H Q => (∃ i, xs = [V.int i] ∧ Q (V.int i) H) ∨ ∃ k, xs = [V.bl k] ∧ Q (V.int (if k = true then 1 else 0)) H) (tCons te tNil)) σ H (.int i) :=
  ev_cb (ea_cons h ea_nil) fun H1 _ Q q => .inl ⟨i, rfl, q H1 (Ex.refl _)⟩
theorem ev_intB {b : Bool} (h : Ev te σ H (.bl b)) : Ev (tCB (fun xs H Q => (∃ i, xs = [V.int i] ∧ Q (V.int i) H) ∨ ∃ k, xs = [V.bl k] ∧ Q (V.int (if k = true then 1 else 0)) H) (tCons te tNil)) σ H (.int (if b = true then 1 else 0)) :=
  ev_cb (ea_cons h ea_nil) fun H1 _ Q q => .inr ⟨b, rfl, q H1 (Ex.refl _)⟩
theorem ev_lenL {p : Addr} {xs : List V} (h : Ev te σ H (.ref p)) (hs : SqL K H p xs) : Ev (tCB (fun xs H Q => ∃ x n, xs = [x] ∧ LenV K x H n ∧ Q (.int n) H) (tCons te tNil)) σ H (.int (xs.length : Int)) :=
  ev_cb (ea_cons h ea_nil) fun H1 e Q q => ⟨_, xs.length, rfl, .inl ⟨xs, ex_l e hs, rfl⟩, q H1 (Ex.refl _)⟩
theorem ev_lenT {p : Addr} {xs : List V} (h : Ev te σ H (.ref p)) (hs : SqT K H p xs) : Ev (tCB (fun xs H Q => ∃ x n, xs = [x] ∧ LenV K x H n ∧ Q (.int n) H) (tCons te tNil)) σ H (.int (xs.length : Int)) :=
  ev_cb (ea_cons h ea_nil) fun H1 e Q q => ⟨_, xs.length, rfl, .inr ⟨xs, ex_t e hs, rfl⟩, q H1 (Ex.refl _)⟩
theorem ev_lenS {x : Str} (h : Ev te σ H (.str x)) (hz : x.length ≤ sizeLine) : Ev (tCB (fun xs H Q => ∃ x n, xs = [x] ∧ LenV K x H n ∧ Q (.int n) H) (tCons te tNil)) σ H (.int (x.length : Int)) :=
  ev_cb (ea_cons h ea_nil) fun H1 e Q q => ⟨_, x.length, rfl, ⟨hz, rfl⟩, q H1 (Ex.refl _)⟩
theorem ev_abs {i : Int} (h : Ev te σ H (.int i)) : Ev (tCB (fun xs H Q => ∃ i, xs = [V.int i] ∧ Q (V.int (if i < 0 then -i else i)) H) (tCons te tNil)) σ H (.int (if i < 0 then -i else i)) :=
  ev_cb (ea_cons h ea_nil) fun H1 e Q q => ⟨i, rfl, q H1 (Ex.refl _)⟩
theorem dp_ints {H : Hp} : ∀ l : List Int, DpAll K H (l.map V.int) (l.map PyData.int)
  | [] => .nil
  | x :: l => .cons (.int x) (dp_ints l)
theorem lay_ints : ∀ l : List Int, PyData.canLayAll0 (l.map PyData.int) = true ∧ PyData.depthAll (l.map PyData.int) = 0
  | [] => ⟨rfl, rfl⟩
  | x :: l => by
    obtain ⟨h1, h2⟩ := lay_ints l
    refine ⟨?_, ?_⟩
    · rw [List.map_cons]; unfold PyData.canLayAll0; rw [h1]; rfl
    · rw [List.map_cons]; unfold PyData.depthAll; rw [h2]; rfl
theorem shaped_of {d : PyData} {n : Nat} (h1 : d.canLay0 = true) (h2 : d.depth = n) (h3 : n ≤ 64) : SeqAt.shaped d = true := by
  unfold SeqAt.shaped
  rw [h1, h2, decide_eq_true h3]
  rfl
theorem sh_ints (l : List Int) : SeqAt.shaped (.list (l.map PyData.int)) = true :=
  shaped_of (n := 1) (lay_ints l).1 (by unfold PyData.depth; rw [(lay_ints l).2]) (by decide)
theorem sh_intsT (l : List Int) : SeqAt.shaped (.tuple (l.map PyData.int)) = true :=
  shaped_of (n := 1) (lay_ints l).1 (by unfold PyData.depth; rw [(lay_ints l).2]) (by decide)
/-- xs != [] -/
theorem ev_neNil {q : Addr} {ns : List Int} (h : Ev te σ H (.ref q)) (hs : SqL K H q (ns.map V.int)) : Ev (tOp (rNeD K) te (tLst tNil)) σ H (.bl (!ns.isEmpty)) :=
  ev_opL h (el_lst ea_nil (by decide)) fun r H1 h1 e => fun H2 e2 Q q => ⟨.list (ns.map PyData.int), .list [], .lst (ex_l (e.trans e2) hs) (dp_ints _), .lst (sq_of (e2 _ _ h1)) .nil, sh_ints _, by decide, by
    have : PyData.eqv (.list (ns.map PyData.int)) (.list []) = ns.isEmpty := by cases ns <;> rfl
    rw [this]
    exact q H2 (Ex.refl _)⟩
end
theorem mul_bnd {s t S T : Int} (h1 : 0 ≤ s) (h2 : s ≤ S) (h3 : 0 ≤ t) (h4 : t ≤ T) : 0 ≤ s * t ∧ s * t ≤ S * T :=
  ⟨Int.mul_nonneg h1 h3, Int.mul_le_mul h2 h4 h3 (Int.le_trans h1 h2)⟩
theorem bnd5 {st a c d e : Int} (h1 : 0 ≤ st) (h2 : st < 2147483648) (h3 : 0 ≤ a) (h4 : a ≤ 1048576) (h5 : 0 ≤ c) (h6 : c ≤ 1000000) (h7 : 0 ≤ d) (h8 : d ≤ 1000000) (h9 : 0 ≤ e) (h10 : e ≤ 1000000) : (st * (2 * a + c) + d * a * a + e).natAbs < 2 ^ 64 := by
  obtain ⟨i1, i2⟩ := mul_bnd (s := st) (t := 2 * a + c) (S := 2147483648) (T := 4000000) h1 (by omega) (by omega) (by omega)
  obtain ⟨j1, j2⟩ := mul_bnd (s := d) (t := a) (S := 1000000) (T := 1048576) h7 h8 h3 h4
  obtain ⟨k1, k2⟩ := mul_bnd (s := d * a) (t := a) (S := 1000000 * 1048576) (T := 1048576) j1 j2 h3 h4
  omega
/-- a place that is there -/
theorem at_mod {ns : List Int} {a : Int} (h : ns.isEmpty = false) : 0 < ((ns.map V.int).length : Int) ∧ ∃ x, atI (ns.map V.int) (a % ((ns.map V.int).length : Int)) = some (.int x) := by
  have hl : 0 < (ns.map V.int).length := by
    cases ns with
    | nil => cases h
    | cons x r => exact Nat.succ_pos _
  have hl' : (0 : Int) < ((ns.map V.int).length : Int) := by omega
  refine ⟨hl', ?_⟩
  have h0 := Int.emod_nonneg a (Int.ne_of_gt hl')
  have h1 := Int.emod_lt_of_pos a hl'
  obtain ⟨j, hj⟩ : ∃ j : Nat, a % ((ns.map V.int).length : Int) = (j : Int) := ⟨_, (Int.toNat_of_nonneg h0).symm⟩
  rw [hj] at h1 ⊢
  have hjl : j < ns.length := by rw [List.length_map] at h1; omega
  exact ⟨ns[j], atI_nat (by rw [List.getElem?_map, List.getElem?_eq_getElem hjl]; rfl)⟩
/-- a new pen -/
def spPen (K : Fr') : Sp := fun vs H Q _ => ∃ (a : Addr) (ns : List Int), vs = [.ref a] ∧ SqL K H a (ns.map V.int) ∧ ns.length ≤ 1000000 ∧ ∀ p pc H', H p = none → Ex H H' → PenAt K H' p pc 0 → Q (.ref p) H'
/-- a number below many -/
def spDraw (K : Fr') : Sp := fun vs H Q _ => ∃ (p pc : Addr) (m : Int) (n : Nat), vs = [.ref p, .int m] ∧ PenAt K H p pc n ∧ n ≤ 1048576 ∧ 0 < m ∧ m < 1073741824 ∧ ∀ r H', 0 ≤ r → r < m → Gp p H H' → PenAt K H' p pc (n + 1) → Q (.int r) H'
/-- an item of a list -/
def spPick (K : Fr') : Sp := fun vs H Q _ => ∃ (p pc q : Addr) (xs : List V) (n : Nat), vs = [.ref p, .ref q] ∧ PenAt K H p pc n ∧ n ≤ 1048576 ∧ SqL K H q xs ∧ 0 < xs.length ∧ xs.length < 1073741824 ∧ ∀ x H', x ∈ xs → Gp p H H' → PenAt K H' p pc (n + 1) → Q x H'
theorem cutV_ints (ns : List Int) : ∃ ms : List Int, cutV (ns.map V.int) none (some 63) = ms.map V.int ∧ ms.length ≤ 63 := by
  refine ⟨(ns.drop (HT.sIx (ns.map V.int).length 0 none)).take (HT.sIx (ns.map V.int).length (ns.map V.int).length (some 63) - HT.sIx (ns.map V.int).length 0 none), ?_, ?_⟩
  · unfold cutV
    rw [List.map_take, List.map_drop]
  · refine Nat.le_trans (List.length_take_le _ _) ?_
    have : HT.sIx (ns.map V.int).length (ns.map V.int).length (some 63) ≤ 63 := by
      show (if (63 : Int) < 0 then ((63 : Int) + ((ns.map V.int).length : Int)).toNat else min (63 : Int).toNat (ns.map V.int).length) ≤ 63
      rw [if_neg (by decide)]
      exact Nat.min_le_left _ _
    omega
end Wh
/-! ## WhLaw -/
set_option Elab.async false
set_option linter.all false
set_option maxRecDepth 100000
set_option maxHeartbeats 4000000
/-! What a law does with its pen, its lambdas. -/
namespace Wh
open PySem PySem.Spec PyProof.Rows L2 He Evl LamX
/-- a value's data; none: an empty dict that is not the pen -/
def Dq (K : Fr') (p : Addr) (H : Hp) (v : V) (o : Option PyData) : Prop := match o with
  | some d => Dp K H v d
  | none => ∃ a, v = .ref a ∧ a ≠ p ∧ H a = some (.dK [])
inductive DqA (K : Fr') (p : Addr) (H : Hp) : List V → List (Option PyData) → Prop
  | nil : DqA K p H [] []
  | cons {v : V} {o : Option PyData} {vs : List V} {os : List (Option PyData)} : Dq K p H v o → DqA K p H vs os → DqA K p H (v :: vs) (o :: os)
section
variable {K : Fr'} {p pc : Addr} {H H' H1 : Hp} {σ : St} {T : List (Addr × Str)}
theorem Dq.gp {v : V} {o : Option PyData} (h : Dq K p H v o) (e : Gp p H H') : Dq K p H' v o := by
  cases o with
  | some d => exact dp_gr e.1 d h
  | none =>
    obtain ⟨a, h1, h2, h3⟩ := h
    exact ⟨a, h1, h2, e.2 _ _ h2 h3⟩
theorem DqA.gp {vs : List V} {os : List (Option PyData)} (h : DqA K p H vs os) (e : Gp p H H') : DqA K p H' vs os := by
  induction h with
  | nil => exact .nil
  | cons h1 _ ih => exact .cons (h1.gp e) ih
theorem ExtN.gr (e : ExtN H H') : Gr H H' := fun a o h _ m => e a o h m
theorem ExtN.ex (e : Ex H H') : ExtN H H' := fun a o h _ => e a o h
theorem Dq.xn {v : V} {o : Option PyData} (h : Dq K p H v o) (e : ExtN H H') : Dq K p H' v o := by
  cases o with
  | some d => exact dp_gr (ExtN.gr e) d h
  | none =>
    obtain ⟨a, h1, h2, h3⟩ := h
    exact ⟨a, h1, h2, e _ _ h3 (fun _ z => by cases z)⟩
theorem PenAt.xn {n : Nat} (h : PenAt K H p pc n) (e : ExtN H H') : PenAt K H' p pc n := by
  obtain ⟨a, l, ns, h1, h2, h3⟩ := h
  exact ⟨a, l, ns, e _ _ h1 (fun _ z => by cases z), e _ _ h2 (fun _ z => by cases z), h3⟩
theorem Tabs.gp {kvs : List (Key × V)} (t : Tabs T H) (hp : H p = some (.dK kvs)) (e : Gp p H H') : Tabs T H' := fun q hq => by
  obtain ⟨ps, h1, h2, h3⟩ := t q hq
  have hne : q.1 ≠ p := fun z => by rw [z, hp] at h1; cases h1
  refine ⟨ps, e.2 _ _ hne h1, h2, fun pos cv hc => ?_⟩
  obtain ⟨c, e1, e2⟩ := h3 pos cv hc
  exact ⟨c, e1, e.1 _ _ e2 (fun _ z => by cases z) codeO_ne⟩
theorem dqa_len {vs : List V} {os : List (Option PyData)} (h : DqA K p H vs os) : vs.length = os.length := by
  induction h with
  | nil => rfl
  | cons _ _ ih => exact congrArg (· + 1) ih
theorem dqa_mem {vs : List V} {os : List (Option PyData)} (h : DqA K p H vs os) {x : V} (hx : x ∈ vs) : ∃ o ∈ os, Dq K p H x o := by
  induction h with
  | nil => cases hx
  | cons h1 _ ih =>
    rcases List.mem_cons.mp hx with rfl | hx
    · exact ⟨_, List.mem_cons_self .., h1⟩
    · obtain ⟨o, m, d⟩ := ih hx
      exact ⟨o, List.mem_cons_of_mem _ m, d⟩
theorem dqa_dp : ∀ {ds : List PyData} {vs : List V}, DqA K p H vs (ds.map some) → DpAll K H vs ds
  | [], _, h => by cases h; exact .nil
  | d :: ds, _, h => by cases h with | cons h1 h2 => exact .cons h1 (dqa_dp h2)
/-- data told on the way -/
def EvQ (K : Fr') (p : Addr) (te : TE) (σ : St) (H : Hp) (o : Option PyData) : Prop := ∀ H1, Ex H H1 → ∀ Q : VK, (∀ v H2, Ex H1 H2 → Dq K p H2 v o → Q v H2) → te σ H1 Q
def EvQA (K : Fr') (p : Addr) (ta : TA) (σ : St) (H : Hp) (os : List (Option PyData)) : Prop := ∀ H1, Ex H H1 → ∀ Q : List V → Hp → Prop, (∀ vs H2, Ex H1 H2 → DqA K p H2 vs os → Q vs H2) → ta σ H1 Q
theorem eq_ev {te : TE} {v : V} {d : PyData} (h : Ev te σ H v) (hd : ∀ H', Ex H H' → Dp K H' v d) : EvQ K p te σ H (some d) := fun H1 e Q q => h H1 e _ fun H2 e2 => q _ _ e2 (hd _ (e.trans e2))
theorem eq_non : EvQ K p (tC .non) σ H (some .none) := eq_ev ev_c fun _ _ => .non
theorem eq_int {i : Int} : EvQ K p (tC (.int i)) σ H (some (.int i)) := eq_ev ev_c fun _ _ => .int i
theorem eq_str {s : Str} : EvQ K p (tC (.str s)) σ H (some (.str s)) := eq_ev ev_c fun _ _ => .str s
theorem eq_bl {b : Bool} : EvQ K p (tC (.bl b)) σ H (some (.bool b)) := eq_ev ev_c fun _ _ => .bl b
theorem eqa_nil : EvQA K p tNil σ H [] := fun H1 _ Q q => q [] H1 (Ex.refl _) .nil
theorem eqa_cons {te : TE} {ta : TA} {o : Option PyData} {os : List (Option PyData)} (h : EvQ K p te σ H o) (hr : EvQA K p ta σ H os) : EvQA K p (tCons te ta) σ H (o :: os) := fun H1 e Q q =>
  h H1 e _ fun v H2 e2 d => hr H2 (e.trans e2) _ fun vs H3 e3 ds => q (v :: vs) H3 (e2.trans e3) (.cons (d.gp (Gp.ex e3)) ds)
theorem eq_lst {ta : TA} {ds : List PyData} (h : EvQA K p ta σ H (ds.map some)) (hz : ds.length ≤ 100000) : EvQ K p (tLst ta) σ H (some (.list ds)) := fun H1 e Q q =>
  h H1 e _ fun vs H2 e2 d => ⟨by rw [dqa_len d, List.length_map]; exact sz_of hz, fun r hr => q _ _ (e2.trans (Ex.new hr)) (.lst (sq_of upd_same) (dqa_dp (d.gp (Gp.ex (Ex.new hr)))))⟩
theorem eq_tup {ta : TA} {ds : List PyData} (h : EvQA K p ta σ H (ds.map some)) (hz : ds.length ≤ 100000) : EvQ K p (tTup ta) σ H (some (.tuple ds)) := fun H1 e Q q =>
  h H1 e _ fun vs H2 e2 d => ⟨by rw [dqa_len d, List.length_map]; exact sz_of hz, fun r hr => q _ _ (e2.trans (Ex.new hr)) (.tup (st_of upd_same) (dqa_dp (d.gp (Gp.ex (Ex.new hr)))))⟩
/-- a draw, a pick: c numbers are drawn -/
def Dr (K : Fr') (p pc : Addr) (c : Nat) (te : TE) (σ : St) (H : Hp) (P : V → Hp → Prop) : Prop := ∀ H1 n, Gp p H H1 → PenAt K H1 p pc n → n + c ≤ 1048576 → ∀ Q : VK, (∀ y H2, P y H2 → Gp p H1 H2 → PenAt K H2 p pc (n + c) → Q y H2) → te σ H1 Q
def IntB (M : Int) (y : V) (_ : Hp) : Prop := ∃ r, y = .int r ∧ 0 ≤ r ∧ r < M
variable {i j : Nat} {E : XK} {D : Ends} {tz : TS}
theorem dr_draw {te : TE} {m : Int} (hi : σ[i]? = some (some (.ref p))) (hm : ∀ H1, Gp p H H1 → Ev te σ H1 (.int m)) (h0 : 0 < m) (h1 : m < 1073741824) : Dr K p pc 1 (tCall (spDraw K) [] E (tCons (tVar i) (tCons te tNil))) σ H (IntB m) := fun H1 n g hp hn Q q =>
  ⟨.ref p, hi, hm H1 g H1 (Ex.refl _) _ fun H2 e2 => ⟨p, pc, m, n, rfl, hp.ex e2, by omega, h0, h1, fun r H' r0 r1 g' hp' => q _ _ ⟨r, rfl, r0, r1⟩ ((Gp.ex e2).trans g') hp'⟩⟩
theorem dr_drawD {te : TE} {c : Nat} {M : Int} {P : V → Hp → Prop} (hi : σ[i]? = some (some (.ref p))) (hm : Dr K p pc c te σ H P) (hP : ∀ y H2, P y H2 → ∃ m, y = .int m ∧ 0 < m ∧ m ≤ M) (h1 : M < 1073741824) : Dr K p pc (c + 1) (tCall (spDraw K) [] E (tCons (tVar i) (tCons te tNil))) σ H (IntB M) := fun H1 n g hp hn Q q =>
  ⟨.ref p, hi, hm H1 n g hp (by omega) _ fun y H2 py g2 hp2 => by
    obtain ⟨m, rfl, m0, m1⟩ := hP y H2 py
    exact ⟨p, pc, m, n + c, rfl, hp2, by omega, m0, by omega, fun r H' r0 r1 g' hp' => q _ _ ⟨r, rfl, r0, by omega⟩ (g2.trans g') hp'⟩⟩
theorem dr_pickL {q : Addr} {xs : List V} (hi : σ[i]? = some (some (.ref p))) (hj : σ[j]? = some (some (.ref q))) (hs : SqL K H q xs) (h0 : 0 < xs.length) (h1 : xs.length < 1073741824) : Dr K p pc 1 (tCall (spPick K) [] E (tCons (tVar i) (tCons (tVar j) tNil))) σ H (fun y _ => y ∈ xs) := fun H1 n g hp hn Q k =>
  ⟨.ref p, hi, .ref q, hj, p, pc, q, xs, n, rfl, hp, by omega, gr_l g.1 hs, h0, h1, fun x H' hx g' hp' => k _ _ hx g' hp'⟩
theorem dr_pickQ {ta : TA} {os : List (Option PyData)} (hi : σ[i]? = some (some (.ref p))) (hl : ∀ H1, (∃ o, H1 p = some o) → EvQA K p ta σ H1 os) (h0 : 0 < os.length) (h1 : os.length ≤ 1000) : Dr K p pc 1 (tCall (spPick K) [] E (tCons (tVar i) (tCons (tLst ta) tNil))) σ H (fun y H2 => ∃ o ∈ os, Dq K p H2 y o) := fun H1 n g hp hn Q k =>
  ⟨.ref p, hi, hl H1 (hp.dk.elim fun _ h => ⟨_, h⟩) H1 (Ex.refl _) _ fun vs H2 e2 d => ⟨by rw [dqa_len d]; exact sz_of (Nat.le_trans h1 (by decide)), fun r hr => ⟨p, pc, r, vs, n, rfl, hp.ex (e2.trans (Ex.new hr)), by omega, sq_of upd_same, by rw [dqa_len d]; exact h0, by rw [dqa_len d]; omega, fun x H' hx g' hp' => by
    obtain ⟨o, ho, dx⟩ := dqa_mem (d.gp (Gp.ex (Ex.new hr))) hx
    exact k _ _ ⟨o, ho, dx.gp g'⟩ ((Gp.ex (e2.trans (Ex.new hr))).trans g') hp'⟩⟩⟩
theorem q_dr {te : TE} {c n : Nat} {P : V → Hp → Prop} (h : Dr K p pc c te σ H P) (hp : PenAt K H p pc n) (hn : n + c ≤ 1048576) (k : ∀ y H2, P y H2 → Gp p H H2 → PenAt K H2 p pc (n + c) → tz D (σ.set i (some y)) H2) : tSeq (tAsg te (gName i)) tz D σ H :=
  h H n (Gp.refl p H) hp hn _ fun y H2 py g hp2 => k y H2 py g hp2
/-- [e for x in range(a number)] -/
theorem q_rep {tn te : TE} {vs : List Nat} {c n M : Nat} {P : V → Prop} (hn : Dr K p pc c tn σ H (IntB M)) (hM : M ≤ 1000) (hw : ∀ x, wipe ((wipe σ vs).set j (some x)) vs = wipe σ vs) (he : ∀ H1 x, Gp p H H1 → Dr K p pc 1 te ((wipe σ vs).set j (some x)) H1 (fun y _ => P y))
    (hp : PenAt K H p pc n) (hc : n + c + M ≤ 1048576) (k : ∀ ys q H2, ys.length < M → (∀ y ∈ ys, P y) → Gp p H H2 → PenAt K H2 p pc (n + c + M) → H2 q = some (.lst ys) → tz D (σ.set i (some (.ref q))) H2) :
    tSeq (tAsg (tLc (iRng1 (tCons tn tNil)) (gName j) tYes te vs) (gName i)) tz D σ H := by
  refine hn H n (Gp.refl p H) hp (by omega) _ fun y H1 hy g1 hp1 => ?_
  obtain ⟨r, rfl, r0, r1⟩ := hy
  refine ⟨r, rfl, by omega, by omega, fun Dl hd => lcO (Q := fun x H1 => tz D (σ.set i (some x)) H1) (relGp p) (ito_r r.toNat) hd (fun t acc H' => acc.length = t ∧ (∀ y ∈ acc, P y) ∧ PenAt K H' p pc (n + c + t)) ⟨rfl, fun y hy => (nomatch hy), hp1.lst hd⟩ (fun t x acc H' hx r' hl w => ?_) (fun acc H' r' hl w => ?_)⟩
  · have ht : t < r.toNat := by
      have := (List.getElem?_eq_some_iff.mp hx).1
      rwa [nums_len] at this
    refine ⟨hw x, ?_⟩
    refine he H' x (g1.trans r') H' (n + c + t) (Gp.refl p H') w.2.2 (by omega) _ fun y H2 py g2 hp2 => lc_put (relGp p) hd r' hl g2 (Nat.lt_of_lt_of_le (by omega : acc.length < 1001) (by decide)) ⟨?_, ?_, ?_⟩
    · rw [List.length_append, w.1]; rfl
    · intro z hz
      rcases List.mem_append.mp hz with hz | hz
      · exact w.2.1 z hz
      · rw [List.mem_singleton.mp hz]; exact py
    · exact hp2.grow (g2.1 _ _ hl (fun _ z => by cases z) (fun _ z => by cases z)) (hp1.ne hd)
  · rw [nums_len] at w
    exact k acc Dl H' (by omega) w.2.1 (g1.trans r') (w.2.2.mono (by omega)) hl
/-- an if whose test is false -/
theorem q_pass {t : TT} {tu : TS} (h : EvT t σ H false) (k : ∀ H1, Ex H H1 → tz D σ H1) : tSeq (tIfS t tu tNext) tz D σ H := q_when h (fun z => by cases z) fun _ => k
theorem tabs_ex (t : Tabs T H) (e : Ex H H') : Tabs T H' := t.ext e
/-- data told, while tables may grow -/
def EvH (K : Fr') (T : List (Addr × Str)) (te : TE) (σ : St) (H : Hp) (d : PyData) : Prop := ∀ H1, ExtN H H1 → Tabs T H1 → ∀ Q : VK, (∀ v H2, ExtN H1 H2 → Tabs T H2 → Dp K H2 v d → Q v H2) → te σ H1 Q
theorem evh_none {ks : List EK} {sp : Sp} {ta : TA} {x : V} {k : EK} {fs : List (Str × V)} {vs : List V} {ds : List PyData} (ha : ∀ H1, ExtN H H1 → EvA ta σ H1 [x]) (hs : ∀ H1, ExtN H H1 → ∀ (Kn : VK) (E : XK), Rse E (EC K k) fs H1 → sp [x] H1 Kn E) (hk : k ∈ ks) (ht : k.told fs = some vs) (hd : ∀ H', DpAll K H' vs ds) :
    EvH K T (tLam T (THeard K ks) fun E => tCall sp [] E ta) σ H (.tuple ds) := fun H0 e0 t0 Q q =>
  ⟨t0, fun H1 e1 t1 H2 e2 Kn hKn => ha H2 ((e0.trans e1).trans (ExtN.ex e2)) H2 (Ex.refl _) _ fun H3 e3 => hs H3 ((e0.trans e1).trans (ExtN.ex (e2.trans e3))) Kn _ fun d H' e' hdd =>
    ⟨k, d, fs, vs, hk, rfl, rfl, hdd, ht, fun p H'' e'' hn hp => q _ _ (e1.trans (ExtN.ex (e2.trans (e3.trans (e'.trans e''))))) (tabs_ex t1 (e2.trans (e3.trans (e'.trans e'')))) (.tup (st_of hp) (hd _))⟩⟩
theorem evh_some {ks : List EK} {sp : Sp} {ta : TA} {x : V} {vs : List V} {ds : List PyData} (ha : ∀ H1, ExtN H H1 → EvA ta σ H1 [x]) (hs : ∀ H1, ExtN H H1 → ∀ (Kn : VK) (E : XK), RetT vs H1 Kn → sp [x] H1 Kn E) (hd : ∀ H', DpAll K H' vs ds) :
    EvH K T (tLam T (THeard K ks) fun E => tCall sp [] E ta) σ H (.list [.tuple ds]) := fun H0 e0 t0 Q q =>
  ⟨t0, fun H1 e1 t1 H2 e2 Kn hKn => ha H2 ((e0.trans e1).trans (ExtN.ex e2)) H2 (Ex.refl _) _ fun H3 e3 => hs H3 ((e0.trans e1).trans (ExtN.ex (e2.trans e3))) Kn _ fun r H' e' hr => hKn _ _ fun p H'' e'' hn hp =>
    q _ _ (e1.trans (ExtN.ex (e2.trans (e3.trans (e'.trans e''))))) (tabs_ex t1 (e2.trans (e3.trans (e'.trans e'')))) (.lst (sq_of hp) (.cons (.tup (st_of (e'' _ _ hr)) (hd _)) .nil))⟩
theorem evh_lst2 {ta tb : TE} {d e : PyData} (ha : EvH K T ta σ H d) (hb : EvH K T tb σ H e) : EvH K T (tLst (tCons ta (tCons tb tNil))) σ H (.list [d, e]) := fun H0 e0 t0 Q q =>
  ha H0 e0 t0 _ fun x H1 e1 t1 d1 => hb H1 (e0.trans e1) t1 _ fun y H2 e2 t2 d2 => ⟨by show 2 ≤ sizeLine; decide, fun p hp =>
    q _ _ ((e1.trans e2).trans (ExtN.ex (Ex.new hp))) (tabs_ex t2 (Ex.new hp)) (.lst (sq_of upd_same) (.cons (dp_ex (Ex.new hp) (dp_gr (ExtN.gr e2) _ d1)) (.cons (dp_ex (Ex.new hp) d2) .nil)))⟩
theorem eqv_same {d : PyData} (h : SeqAt.shaped d = true) : PyData.eqv d d = true := PySem.SeqAt.eqv_refl d (SeqAt.canLay_of_shaped h)
/-- if heard(..) != ..: return False -/
theorem q_neH {ta tb : TE} {tu : TS} {d : PyData} {q : Addr} (ht : Tabs T H) (hsh : SeqAt.shaped d = true) (ha : EvH K T ta σ H d) (hb : ∀ H1, ExtN H H1 → EvQ K q tb σ H1 (some d)) (k : ∀ H1, ExtN H H1 → Tabs T H1 → tz D σ H1) : tSeq (tIfS (tTest (tOp (rNeD K) ta tb)) tu tNext) tz D σ H :=
  ha H (ExtN.refl H) ht _ fun x H1 e1 t1 d1 => hb H1 e1 H1 (Ex.refl _) _ fun y H2 e2 d2 => ⟨d, d, dp_ex e2 d1, d2, hsh, hsh, by
    rw [eqv_same hsh]
    exact ⟨false, rfl, k H2 (e1.trans (ExtN.ex e2)) (tabs_ex t1 e2)⟩⟩
theorem ev_neD {ta tb : TE} {x y : V} {d e : PyData} (ha : Ev ta σ H x) (hb : Ev tb σ H y) (hd : Dp K H x d) (he : Dp K H y e) (s1 : SeqAt.shaped d = true) (s2 : SeqAt.shaped e = true) : Ev (tOp (rNeD K) ta tb) σ H (.bl (!PyData.eqv d e)) :=
  ev_op ha hb fun H2 e2 Q q => ⟨d, e, dp_ex e2 hd, dp_ex e2 he, s1, s2, q H2 (Ex.refl _)⟩
/-- data that is new -/
theorem ev_neQ {ta tb : TE} {d e : PyData} {p q : Addr} (ha : EvQ K p ta σ H (some d)) (hb : EvQ K q tb σ H (some e)) (s1 : SeqAt.shaped d = true) (s2 : SeqAt.shaped e = true) : Ev (tOp (rNeD K) ta tb) σ H (.bl (!PyData.eqv d e)) := fun H1 e Q k =>
  ha H1 e _ fun x H2 e2 d1 => hb H2 (e.trans e2) _ fun y H3 e3 d2 => ⟨_, _, dp_ex e3 d1, d2, s1, s2, k H3 (e2.trans e3)⟩
theorem ev_eqQ {ta tb : TE} {d e : PyData} {p q : Addr} (ha : EvQ K p ta σ H (some d)) (hb : EvQ K q tb σ H (some e)) (s1 : SeqAt.shaped d = true) (s2 : SeqAt.shaped e = true) : Ev (tOp (rEqD K) ta tb) σ H (.bl (PyData.eqv d e)) := fun H1 e Q k =>
  ha H1 e _ fun x H2 e2 d1 => hb H2 (e.trans e2) _ fun y H3 e3 d2 => ⟨_, _, dp_ex e3 d1, d2, s1, s2, k H3 (e2.trans e3)⟩
theorem eq_U {te : TE} {xs : List V} {ds : List PyData} (h : EvU te σ H xs) (hd : ∀ H', Ex H H' → DpAll K H' xs ds) : EvQ K p te σ H (some (.tuple ds)) := fun H1 e Q q => h H1 e _ fun r H2 _ e2 h2 => q _ _ e2 (.tup (st_of h2) (hd _ (e.trans e2)))
theorem eq_L {te : TE} {xs : List V} {ds : List PyData} (h : EvL te σ H xs) (hd : ∀ H', Ex H H' → DpAll K H' xs ds) : EvQ K p te σ H (some (.list ds)) := fun H1 e Q q => h H1 e _ fun r H2 _ e2 h2 => q _ _ e2 (.lst (sq_of h2) (hd _ (e.trans e2)))
/-- a call that gives a new tuple -/
theorem eu_call {sp : Sp} {E : XK} {ta : TA} {x : V} {vs : List V} (h : EvA ta σ H [x]) (hs : ∀ H1, Ex H H1 → ∀ (Q : VK) (E : XK), RetT vs H1 Q → sp [x] H1 Q E) {ds : List PyData} (hd : ∀ H', DpAll K H' vs ds) : EvQ K p (tCall sp [] E ta) σ H (some (.tuple ds)) := fun H1 e Q q =>
  h H1 e _ fun H2 e2 => hs H2 (e.trans e2) Q E fun r H' e' hr => q _ _ (e2.trans e') (.tup (st_of hr) (hd _))
end
theorem passE {P : Program} {w : World} {X : Cx} : Passes (L2.CX P w) X C8.E0 := fun _ _ _ _ _ _ _ h => by
  obtain ⟨a, B, H', cls, d, _, _, _, _, _, _, _, z⟩ := h
  exact z.elim
end Wh
/-! ## WhText -/
set_option Elab.async false
set_option linter.all false
set_option maxRecDepth 100000
set_option maxHeartbeats 4000000
/-! Texts as data. -/
namespace Wh
open PySem PySem.Spec PyProof.Rows L2 He Evl LamX
/-- every sign of it is one -/
def Ok (s : Str) : Prop := ∀ c ∈ s.cps.toList, c < 1114112
theorem ok_lay {s : Str} (h : Ok s) : PyData.canLay0 (.str s) = true := by
  show PyData.strOk s = true
  unfold PyData.strOk
  rw [← Array.all_toList]
  exact List.all_eq_true.mpr fun c hc => decide_eq_true (h c hc)
theorem ok_of {s : Str} (h : s.cps.toList.all (fun c => decide (c < 128)) = true) : Ok s := fun c hc => Nat.lt_trans (of_decide_eq_true (List.all_eq_true.mp h c hc)) (by decide)
theorem sh_str {s : Str} (h : Ok s) : SeqAt.shaped (.str s) = true := shaped_of (n := 0) (ok_lay h) rfl (by decide)
theorem lay_strs : ∀ {l : List Str}, (∀ s ∈ l, Ok s) → PyData.canLayAll0 (l.map PyData.str) = true ∧ PyData.depthAll (l.map PyData.str) = 0
  | [], _ => ⟨rfl, rfl⟩
  | x :: l, h => by
    obtain ⟨h1, h2⟩ := lay_strs (l := l) fun s hs => h s (List.mem_cons_of_mem _ hs)
    refine ⟨?_, ?_⟩
    · rw [List.map_cons]
      unfold PyData.canLayAll0
      rw [h1, ok_lay (h x (List.mem_cons_self ..))]
      rfl
    · rw [List.map_cons]
      unfold PyData.depthAll
      rw [h2]
      rfl
theorem sh_strs {l : List Str} (h : ∀ s ∈ l, Ok s) : SeqAt.shaped (.list (l.map PyData.str)) = true := shaped_of (n := 1) (lay_strs h).1 (by unfold PyData.depth; rw [(lay_strs h).2]) (by decide)
theorem sh_strsT {l : List Str} (h : ∀ s ∈ l, Ok s) : SeqAt.shaped (.tuple (l.map PyData.str)) = true := shaped_of (n := 1) (lay_strs h).1 (by unfold PyData.depth; rw [(lay_strs h).2]) (by decide)
theorem sh_one {d : PyData} {n : Nat} (h1 : d.canLay0 = true) (h2 : d.depth = n) (h3 : n < 64) : SeqAt.shaped (.list [d]) = true := by
  refine shaped_of (n := n + 1) ?_ ?_ h3
  · show (d.canLay0 && true) = true
    rw [h1]; rfl
  · show max d.depth 0 + 1 = _
    rw [h2, Nat.max_eq_left (Nat.zero_le _)]
/-! ### joined texts, cut texts -/
theorem joinL_in {S : List Nat} : ∀ {parts : List (List Nat)} {c : Nat}, c ∈ TL.joinL S parts → c ∈ S ∨ ∃ p ∈ parts, c ∈ p
  | [], c, h => by cases h
  | [p], c, h => .inr ⟨p, List.mem_singleton.mpr rfl, h⟩
  | p :: q :: r, c, h => by
    rcases List.mem_append.mp (show c ∈ p ++ (S ++ TL.joinL S (q :: r)) from h) with h | h
    · exact .inr ⟨p, List.mem_cons_self .., h⟩
    · rcases List.mem_append.mp h with h | h
      · exact .inl h
      · rcases joinL_in h with z | ⟨x, hx, hc⟩
        · exact .inl z
        · exact .inr ⟨x, List.mem_cons_of_mem _ hx, hc⟩
theorem joinL_len {S : List Nat} {m : Nat} : ∀ {parts : List (List Nat)}, (∀ p ∈ parts, p.length ≤ m) → (TL.joinL S parts).length ≤ parts.length * (m + S.length)
  | [], _ => Nat.zero_le _
  | [p], h => by
    have := h p (List.mem_singleton.mpr rfl)
    show p.length ≤ 1 * (m + S.length)
    omega
  | p :: q :: r, h => by
    have h1 := h p (List.mem_cons_self ..)
    have h2 := joinL_len (S := S) (parts := q :: r) fun x hx => h x (List.mem_cons_of_mem _ hx)
    show (p ++ (S ++ TL.joinL S (q :: r))).length ≤ _
    rw [List.length_append, List.length_append]
    rw [show (p :: q :: r).length = (q :: r).length + 1 from rfl, Nat.add_mul]
    omega
theorem joinL_nil : ∀ parts : List (List Nat), TL.joinL [] parts = parts.flatten
  | [] => rfl
  | [p] => by show p = [p].flatten; simp
  | p :: q :: r => by
    show p ++ ([] ++ TL.joinL [] (q :: r)) = _
    rw [List.nil_append, joinL_nil (q :: r)]
    simp
theorem tl_joinT (y : Str) (parts : List Str) : TL.tl (Txt.join y parts) = TL.joinL (TL.tl y) (parts.map TL.tl) := by rw [TL.join_eq, TL.tl_join]
theorem len_app (x y : Str) : (x ++ y).length = x.length + y.length := by rw [TL.len_tl, TL.tl_append, List.length_append, ← TL.len_tl, ← TL.len_tl]
theorem joinL_pos {S p : List Nat} : ∀ (r : List (List Nat)), p.length ≤ (TL.joinL S (p :: r)).length
  | [] => Nat.le_refl _
  | q :: r => by
    show _ ≤ (p ++ (S ++ TL.joinL S (q :: r))).length
    rw [List.length_append]
    omega
theorem eqv_nil (l : List PyData) : PyData.eqv (.list l) (.list []) = l.isEmpty := by cases l <;> rfl
theorem six_to (n : Nat) (i : Int) (h : 0 ≤ i) (h2 : i ≤ n) : HT.sIx n 0 none = 0 ∧ HT.sIx n n (some i) = i.toNat := by
  refine ⟨rfl, ?_⟩
  show (if i < 0 then (i + (n : Int)).toNat else min i.toNat n) = i.toNat
  rw [if_neg (by omega)]
  exact Nat.min_eq_left (by omega)
theorem six_from (n : Nat) (i : Int) (h : 0 ≤ i) (h2 : i ≤ n) : HT.sIx n 0 (some i) = i.toNat ∧ HT.sIx n n none = n := by
  refine ⟨?_, rfl⟩
  show (if i < 0 then (i + (n : Int)).toNat else min i.toNat n) = i.toNat
  rw [if_neg (by omega)]
  exact Nat.min_eq_left (by omega)
theorem cut_to (z : Str) (i : Int) (h : 0 ≤ i) (h2 : i ≤ z.length) : TL.tl (cutS z none (some i)) = (TL.tl z).take i.toNat := by
  show ((z.cps.toList.drop (HT.sIx z.length 0 none)).take (HT.sIx z.length z.length (some i) - HT.sIx z.length 0 none)) = _
  rw [(six_to _ i h h2).1, (six_to _ i h h2).2, List.drop_zero, Nat.sub_zero]
theorem cut_from (z : Str) (i : Int) (h : 0 ≤ i) (h2 : i ≤ z.length) : TL.tl (cutS z (some i) none) = (TL.tl z).drop i.toNat := by
  show ((z.cps.toList.drop (HT.sIx z.length 0 (some i))).take (HT.sIx z.length z.length none - HT.sIx z.length 0 (some i))) = _
  rw [(six_from _ i h h2).1, (six_from _ i h h2).2]
  refine List.take_of_length_le ?_
  rw [List.length_drop, TL.len_tl]
  exact Nat.le_refl _
/-- a text bent at i -/
def bentS (z y : Str) (i : Int) : Str := cutS z none (some i) ++ y ++ cutS z (some i) none
theorem bent_tl (z y : Str) (i : Int) (h : 0 ≤ i) (h2 : i ≤ z.length) : TL.tl (bentS z y i) = (TL.tl z).take i.toNat ++ TL.tl y ++ (TL.tl z).drop i.toNat := by
  unfold bentS
  rw [TL.tl_append, TL.tl_append, cut_to z i h h2, cut_from z i h h2]
theorem bent_in (z y : Str) (i : Int) (h : 0 ≤ i) (h2 : i ≤ z.length) {c : Nat} (hc : c ∈ TL.tl (bentS z y i)) : c ∈ TL.tl z ∨ c ∈ TL.tl y := by
  rw [bent_tl z y i h h2] at hc
  rcases List.mem_append.mp hc with hc | hc
  · rcases List.mem_append.mp hc with hc | hc
    · exact .inl (List.mem_of_mem_take hc)
    · exact .inr hc
  · exact .inl (List.mem_of_mem_drop hc)
theorem bent_has (z y : Str) (i : Int) (h : 0 ≤ i) (h2 : i ≤ z.length) {c : Nat} (hc : c ∈ TL.tl y) : c ∈ TL.tl (bentS z y i) := by
  rw [bent_tl z y i h h2]
  exact List.mem_append_left _ (List.mem_append_right _ hc)
theorem bent_len (z y : Str) (i : Int) (h : 0 ≤ i) (h2 : i ≤ z.length) : (bentS z y i).length = z.length + y.length := by
  rw [TL.len_tl, bent_tl z y i h h2, TL.len_tl z, TL.len_tl y, List.length_append, List.length_append, List.length_take, List.length_drop]
  rw [TL.len_tl] at h2
  omega
end Wh
/-! ## WhLaw2 -/
set_option Elab.async false
set_option linter.all false
set_option maxRecDepth 100000
set_option maxHeartbeats 4000000
/-! A law's statements. -/
namespace Wh
open PySem PySem.Spec PyProof.Rows L2 He Evl LamX
section
variable {K : Fr'} {p pc : Addr} {H H' H1 : Hp} {σ : St} {T : List (Addr × Str)} {i j : Nat} {E : XK} {D : Ends} {tz : TS} {n : Nat}
theorem q_pen {a : Addr} {ns : List Int} (hi : σ[j]? = some (some (.ref a))) (hs : SqL K H a (ns.map V.int)) (hz : ns.length ≤ 1000000) (k : ∀ p pc H1, H p = none → Ex H H1 → PenAt K H1 p pc 0 → tz D (σ.set i (some (.ref p))) H1) : tSeq (tAsg (tCall (spPen K) [] E (tCons (tVar j) tNil)) (gName i)) tz D σ H :=
  ⟨.ref a, hi, a, ns, rfl, hs, hz, fun p pc H1 h0 e h1 => k p pc H1 h0 e h1⟩
theorem q_asgT2 {ta : TA} {x y : V} {m : Nat} (h : EvA ta σ H [x, y]) (hm : m = 2) (k : ∀ H1, Ex H H1 → tz D ((σ.set i (some x)).set j (some y)) H1) : tSeq (tAsg (tTup ta) (gTup K m (gCons (gName i) (gCons (gName j) gNil)))) tz D σ H :=
  h H (Ex.refl _) _ fun H1 e1 => ⟨by show 2 ≤ sizeLine; decide, fun q hq => ⟨q, [x, y], rfl, st_of upd_same, hm.symm, _, _, rfl, _, _, rfl, rfl, k _ (e1.trans (Ex.new hq))⟩⟩
theorem q_drT2 {te tu : TE} {c d n m : Nat} {P R : V → Hp → Prop} (h1 : Dr K p pc c te σ H P) (h2 : Dr K p pc d tu σ H R) (hm : m = 2) (hp : PenAt K H p pc n) (hn : n + c + d ≤ 1048576) (hst : ∀ y H1 H2, P y H1 → Gp p H1 H2 → P y H2) (hst2 : ∀ y H1 H2, R y H1 → Gp p H1 H2 → R y H2)
    (k : ∀ x y H2, P x H2 → R y H2 → Gp p H H2 → PenAt K H2 p pc (n + c + d) → tz D ((σ.set i (some x)).set j (some y)) H2) : tSeq (tAsg (tTup (tCons te (tCons tu tNil))) (gTup K m (gCons (gName i) (gCons (gName j) gNil)))) tz D σ H :=
  h1 H n (Gp.refl p H) hp (by omega) _ fun x H1 px g1 hp1 => h2 H1 (n + c) g1 hp1 hn _ fun y H2 ry g2 hp2 => ⟨by show 2 ≤ sizeLine; decide, fun q hq =>
    ⟨q, [x, y], rfl, st_of upd_same, hm.symm, _, _, rfl, _, _, rfl, rfl, k x y _ (hst _ _ _ px (g2.trans (Gp.ex (Ex.new hq)))) (hst2 _ _ _ ry (Gp.ex (Ex.new hq))) ((g1.trans g2).trans (Gp.ex (Ex.new hq))) (hp2.ex (Ex.new hq))⟩⟩
theorem q_drPar {te tu : TE} {c d n : Nat} {P R : V → Hp → Prop} (h1 : Dr K p pc c te σ H P) (h2 : Dr K p pc d tu σ H R) (hp : PenAt K H p pc n) (hn : n + c + d ≤ 1048576) (hst : ∀ y H1 H2, P y H1 → Gp p H1 H2 → P y H2)
    (k : ∀ x y H2, P x H2 → R y H2 → Gp p H H2 → PenAt K H2 p pc (n + c + d) → tz D ((σ.set i (some x)).set j (some y)) H2) : tSeq (tPar i j (tCons te (tCons tu tNil))) tz D σ H :=
  h1 H n (Gp.refl p H) hp (by omega) _ fun x H1 px g1 hp1 => h2 H1 (n + c) g1 hp1 hn _ fun y H2 ry g2 hp2 => ⟨x, y, rfl, k x y H2 (hst _ _ _ px g2) ry (g1.trans g2) hp2⟩
theorem et_orF {t u : TT} (h1 : EvT t σ H false) (h2 : EvT u σ H false) : EvT (tOr t u) σ H false := et_or h1 fun _ => h2
theorem et_neS {ta tb : TE} {s : Str} (ha : Ev ta σ H (.str s)) (hb : Ev tb σ H (.str s)) : EvT (tTest (tOp rNe ta tb)) σ H false := et_test (ev_is (ev_op ha hb (rv_ne rfl)) (by simp))
theorem ev_callK {sp : Sp} {ta : TA} {zs : List V} {m : Nat} {gV : {α : Type} → List α → List α} {z : V} (h : EvA ta σ H zs) (hl : zs.length = m) (hs : SpV sp (gV zs) H z) : Ev (tCalK sp m gV E ta) σ H z := fun H1 e Q q =>
  h H1 e _ fun H2 e2 => ⟨hl, hs H2 (e.trans e2) Q (fun H3 e3 => q H3 (e2.trans e3)) E⟩
theorem ev_callKU {sp : Sp} {te : TE} {xs : List V} {z : V} (h : EvU te σ H xs) (hs : ∀ r H1, H1 r = some (.tup xs) → Ex H H1 → SpV sp [.ref r] H1 z) : Ev (tCalK sp 1 (fun {α} => id) E (tCons te tNil)) σ H z := fun H1 e Q q =>
  h H1 e _ fun r H2 _ e2 h2 => ⟨rfl, hs r H2 h2 (e.trans e2) H2 (Ex.refl _) Q (fun H3 e3 => q H3 (e2.trans e3)) E⟩
theorem eu_tuple1 {te : TE} {q : Addr} {xs : List V} (h : Ev te σ H (.ref q)) (hs : SqL K H q xs) : EvU (tCB (fun xs H Q => ∃ p ys, xs = [.ref p] ∧ ((SqL K H p ys ∧ ∀ l, H l = none → Q (.ref l) (upd H l (.tup ys))) ∨ (SqT K H p ys ∧ Q (.ref p) H))) (tCons te tNil)) σ H xs := fun H1 e Q k =>
  h H1 e _ fun H2 e2 => ⟨q, xs, rfl, .inl ⟨ex_l (e.trans e2) hs, fun l hl => k l _ (fresh_back e2 hl) (e2.trans (Ex.new hl)) upd_same⟩⟩
theorem eu_callK {sp : Sp} {ta : TA} {x : V} {vs : List V} {ds : List PyData} (h : EvA ta σ H [x]) (hs : ∀ H1, Ex H H1 → ∀ (Q : VK) (E : XK), RetT vs H1 Q → sp [x] H1 Q E) (hd : ∀ H', DpAll K H' vs ds) : EvQ K p (tCalK sp 1 (fun {α} => id) E ta) σ H (some (.tuple ds)) := fun H1 e Q q =>
  h H1 e _ fun H2 e2 => ⟨rfl, hs H2 (e.trans e2) Q E fun r H' e' hr => q _ _ (e2.trans e') (.tup (st_of hr) (hd _))⟩
theorem et_neQ {ta tb : TE} {d : PyData} {q : Addr} (ha : EvQ K p ta σ H (some d)) (hb : EvQ K q tb σ H (some d)) (s1 : SeqAt.shaped d = true) : EvT (tTest (tOp (rNeD K) ta tb)) σ H false := et_test (ev_is (ev_neQ ha hb s1 s1) (by rw [eqv_same s1]; rfl))
theorem ev_slS {te : TE} {tl th : TO} {z : Str} {lo hi : Option Int} (h : Ev te σ H (.str z)) (h1 : EvO tl σ H lo) (h2 : EvO th σ H hi) (hz : z.length ≤ sizeLine) : Ev (tSl rSlS te tl th) σ H (.str (cutS z lo hi)) := fun H1 e Q q =>
  h H1 e _ fun H2 e2 => h1 H2 (e.trans e2) _ fun H3 e3 => h2 H3 ((e.trans e2).trans e3) _ fun H4 e4 => ⟨z, rfl, hz, q H4 ((e2.trans e3).trans e4)⟩
theorem ev_addS {ta tb : TE} {x y : Str} (ha : Ev ta σ H (.str x)) (hb : Ev tb σ H (.str y)) (hz : x.length + y.length ≤ sizeLine) : Ev (tOp (fun x y H Q => ∃ i j, x = V.str i ∧ y = V.str j ∧ i.length + j.length ≤ sizeLine ∧ Q (V.str (i ++ j)) H) ta tb) σ H (.str (x ++ y)) :=
  ev_op ha hb fun H1 _ Q q => ⟨x, y, rfl, rfl, hz, q H1 (Ex.refl _)⟩
theorem eq_rep2 {te : TE} {d : PyData} (h : EvQ K p te σ H (some d)) : EvQ K p (tOp rRep (tLst (tCons te tNil)) (tC (.int 2))) σ H (some (.list [d, d])) := fun H1 e Q q =>
  h H1 e _ fun v H2 e2 dv => ⟨by show 1 ≤ sizeLine; decide, fun r hr => ⟨r, 2, [v], rfl, rfl, upd_same, by decide, by decide, by show 2 ≤ sizeLine; decide, fun r2 hr2 => q _ _ ((e2.trans (Ex.new hr)).trans (Ex.new hr2)) (.lst (sq_of upd_same) (.cons (dp_ex ((Ex.new hr).trans (Ex.new hr2)) dv) (.cons (dp_ex ((Ex.new hr).trans (Ex.new hr2)) dv) .nil)))⟩⟩
theorem eq_if {t : TT} {ta tb : TE} {b : Bool} {o : Option PyData} (h : EvT t σ H b) (h1 : b = true → EvQ K p ta σ H o) (h2 : b = false → EvQ K p tb σ H o) : EvQ K p (tIf t ta tb) σ H o := fun H1 e Q q => h H1 e _ fun H2 e2 => by
  cases b with
  | true => exact h1 rfl H2 (e.trans e2) Q fun v H3 e3 d => q v H3 (e2.trans e3) d
  | false => exact h2 rfl H2 (e.trans e2) Q fun v H3 e3 d => q v H3 (e2.trans e3) d
theorem s_neH {ta tb : TE} {tu : TS} {d : PyData} {q : Addr} (ht : Tabs T H) (hsh : SeqAt.shaped d = true) (ha : EvH K T ta σ H d) (hb : ∀ H1, ExtN H H1 → EvQ K q tb σ H1 (some d)) (k : ∀ H1, ExtN H H1 → Tabs T H1 → D.nx σ H1) : tIfS (tTest (tOp (rNeD K) ta tb)) tu tNext D σ H :=
  ha H (ExtN.refl H) ht _ fun x H1 e1 t1 d1 => hb H1 e1 H1 (Ex.refl _) _ fun y H2 e2 d2 => ⟨d, d, dp_ex e2 d1, d2, hsh, hsh, by
    rw [eqv_same hsh]
    exact ⟨false, rfl, k H2 (e1.trans (ExtN.ex e2)) (tabs_ex t1 e2)⟩⟩
/-- a text of a value -/
def strV (v : V) : Str := match v with
  | .str s => s
  | _ => ""
theorem eq_dict (hp : ∃ o, H p = some o) : EvQ K p tDNewK σ H none := fun H1 e Q q r hr => by
  obtain ⟨o, ho⟩ := hp
  have hne : r ≠ p := fun z => by rw [z, e _ _ ho] at hr; cases hr
  exact q _ _ (Ex.new hr) ⟨r, rfl, hne, upd_same⟩
theorem pick_st {os : List (Option PyData)} : ∀ y H1 H2, (∃ o ∈ os, Dq K p H1 y o) → Gp p H1 H2 → ∃ o ∈ os, Dq K p H2 y o := fun y H1 H2 ⟨o, ho, d⟩ g => ⟨o, ho, d.gp g⟩
/-- a picked text -/
theorem pick_str {os : List (Option PyData)} {ss : List Str} {y : V} (e : os = ss.map fun s => some (.str s)) (h : ∃ o ∈ os, Dq K p H y o) : ∃ s ∈ ss, y = .str s := by
  obtain ⟨o, ho, d⟩ := h
  rw [e] at ho
  obtain ⟨s, hs, rfl⟩ := List.mem_map.mp ho
  cases (show Dp K H y (.str s) from d)
  exact ⟨s, hs, rfl⟩
theorem pick_int {os : List (Option PyData)} {ss : List Int} {M : Int} {y : V} (e : os = ss.map fun s => some (.int s)) (hM : ∀ s ∈ ss, 0 < s ∧ s ≤ M) (h : ∃ o ∈ os, Dq K p H y o) : ∃ m, y = .int m ∧ 0 < m ∧ m ≤ M := by
  obtain ⟨o, ho, d⟩ := h
  rw [e] at ho
  obtain ⟨s, hs, rfl⟩ := List.mem_map.mp ho
  cases (show Dp K H y (.int s) from d)
  exact ⟨s, rfl, hM s hs⟩
theorem strs_of {ss : List Str} : ∀ {ys : List V}, (∀ y ∈ ys, y ∈ ss.map V.str) → ∃ rs : List Str, ys = rs.map V.str ∧ ∀ s ∈ rs, s ∈ ss
  | [], _ => ⟨[], rfl, fun s hs => (nomatch hs)⟩
  | y :: ys, h => by
    obtain ⟨s, hs, rfl⟩ := List.mem_map.mp (h y (List.mem_cons_self ..))
    obtain ⟨rs, rfl, hr⟩ := strs_of fun z hz => h z (List.mem_cons_of_mem _ hz)
    exact ⟨s :: rs, rfl, fun z hz => (List.mem_cons.mp hz).elim (fun e => e ▸ hs) (hr z)⟩
theorem ints_of {M : Int} : ∀ {ys : List V}, (∀ y ∈ ys, ∃ r, y = V.int r ∧ 0 ≤ r ∧ r < M) → ∃ rs : List Int, ys = rs.map V.int ∧ ∀ s ∈ rs, 0 ≤ s ∧ s < M
  | [], _ => ⟨[], rfl, fun s hs => (nomatch hs)⟩
  | y :: ys, h => by
    obtain ⟨s, rfl, hs⟩ := h y (List.mem_cons_self ..)
    obtain ⟨rs, rfl, hr⟩ := ints_of fun z hz => h z (List.mem_cons_of_mem _ hz)
    exact ⟨s :: rs, rfl, fun z hz => (List.mem_cons.mp hz).elim (fun e => e ▸ hs) (hr z)⟩
end
end Wh
/-! ## WhEnd -/
set_option Elab.async false
set_option linter.all false
set_option maxRecDepth 100000
set_option maxHeartbeats 4000000
/-! From the hook's facts. -/
namespace Wh
open PySem PySem.Spec PyProof.Rows L2 He
def heardFa (ks : List EK) : List Fa := (EK.all.map fun k => Fa.glo k.cls) ++ (Fa.glo "SendError" :: (ks.map fun k => Fa.exm k.cls "SendError" true))
def heardKit (ks : List EK) : List (Str × Str × Bool) := ks.flatMap fun k => EK.all.map fun j => (k.cls, j.cls, decide (k = j))
section
variable {d : HkD} {K : Fr'} {h : Heap} {mg : Str → Option Value}
theorem mem_all (k : EK) : k ∈ EK.all := by cases k <;> decide
theorem blt_of (X : K.In h) (G : h.Ns mainGlobals mg) (c : SaysW d h K) (hb : ∀ f ∈ bltFa, f ∈ d.fa) : Blt mg := by
  have fr : ∀ x : Str, Fa.free x ∈ bltFa → mg x = none := fun x hx => free_ok X G (c.says.facts (hb _ hx))
  exact ⟨fr _ (by simp [bltFa]), fr _ (by simp [bltFa]), fr _ (by simp [bltFa]), fr _ (by simp [bltFa]), fr _ (by simp [bltFa]), fr _ (by simp [bltFa]), fr _ (by simp [bltFa]), fr _ (by simp [bltFa]), fr _ (by simp [bltFa]), fr _ (by simp [bltFa]), fr _ (by simp [bltFa]), fr _ (by simp [bltFa]), fr _ (by simp [bltFa]), fr _ (by simp [bltFa]), fr _ (by simp [bltFa])⟩
theorem heardK_of (X : K.In h) (G : h.Ns mainGlobals mg) (c : SaysW d h K) (ks : List EK) (B : Blt mg) (hf : ∀ f ∈ heardFa ks, f ∈ d.fa) (hk : ∀ p ∈ heardKit ks, p ∈ d.kit) (hx : ∀ k ∈ ks, ∃ e ∈ d.ex, e.cls = k.cls ∧ e.fields = k.fields) : HeardK K mg ks := by
  refine ⟨fun k => glo_ok X G (c.says.facts (hf _ (List.mem_append_left _ (List.mem_map.mpr ⟨k, mem_all k, rfl⟩)))), glo_ok X G (c.says.facts (hf _ (List.mem_append_right _ (List.mem_cons_self ..)))), B.isinstance, fun k hk' => exm_ok (c.says.facts (hf _ (List.mem_append_right _ (List.mem_cons_of_mem _ (List.mem_map.mpr ⟨k, hk', rfl⟩))))), fun k hk' j => ?_, fun k hk' => ?_, fun k hk' f hff => ?_⟩
  · exact of_decide_eq_true (c.kit _ (hk (k.cls, j.cls, decide (k = j)) (List.mem_flatMap.mpr ⟨k, hk', List.mem_map.mpr ⟨j, mem_all j, rfl⟩⟩)))
  · obtain ⟨e, he, e1, e2⟩ := hx k hk'
    obtain ⟨T, k1, b, t, no, fb, ex⟩ := exK_of (prog := default) (mg := fun _ => none) (c.exc e he) c.opq rfl (by rfl)
    show ExcC K (ga K k.cls)
    rw [← e1]
    exact excC_ok ex
  · obtain ⟨e, he, e1, e2⟩ := hx k hk'
    obtain ⟨T, k1, b, t, no, fb, ex⟩ := exK_of (prog := default) (mg := fun _ => none) (c.exc e he) c.opq rfl (by rfl)
    show PySem.W.findIn K (.ref (ga K k.cls)) f = some none
    rw [← e1]
    rw [← e2] at hff
    exact no f hff
theorem bindsKw {x qual : Str} {params : Arguments} {body : List Stmt} {scope : Scope} {kws : List (Str × V)} {f : Addr} {fd : FuncData} {ps ks : List Str} {gV : {α : Type} → List α → List α} (F : FunD K x qual params body scope [] kws f fd)
    (hb : ∀ (kV doc pm : Value) (an : Option Addr) (cdv ct : Value) (ws : List Value), ws.length = ks.length → bindArgs (PySem.W.fnOf x qual params body scope .none kV doc pm an cdv ct) ⟨[], ks.zip ws⟩ = pure (ps.zip (gV ws))) (s : Shared) (ws : List Value) (hl : ws.length = ks.length) : BindsTo s fd ⟨[], ks.zip ws⟩ (ps.zip (gV ws)) := by
  obtain ⟨oc, od, dV, kV, doc, pm, an, cdv, ct, osl, rfl, lk, hcd, hd, _⟩ := F.ex
  rcases hd with ⟨_, rfl⟩ | ⟨z, _⟩
  · exact BindsTo.of_looks fun M => PySem.W.Looks.of_pure (hb _ _ _ _ _ _ ws hl)
  · exact absurd rfl z
end
end Wh
/-! ## K88Fn -/
set_option Elab.async false
set_option linter.all false
set_option maxRecDepth 100000
set_option maxHeartbeats 4000000
namespace K88
open PySem PySem.Spec PyProof.Rows L2 He Wh Evl LamX
abbrev St := L2.St
abbrev CXn : CXT := C8.CX0
theorem pass0 {X : Cx} : Passes CXn X C8.E0 := C8.pass0
def top (i : Nat) : Stmt := PySem.Challenge.pw_whoeversends_k88_texts_of_rows_and_bits.main.body.getD i (.Pass ⟨0, 0, 0, 0⟩)
abbrev FnP (K : Fr') (x : Str) (st : Stmt) (f : Addr) (fd : FuncData) : Prop := FunD K x x (defArgs st) (defBody st) (defScope st) [] [] f fd
abbrev s_is_integer : Stmt := top 20
abbrev s_is_within : Stmt := top 21
abbrev s_is_name : Stmt := top 22
abbrev s_is_listed : Stmt := top 23
theorem sc_is_integer : FnScope ["value"] ["value"] (defScope s_is_integer) := ⟨rfl, rfl, rfl, by decide +kernel, rfl, by decide +kernel, by decide +kernel⟩
theorem sc_is_within : FnScope ["value", "least", "most"] ["value", "least", "most"] (defScope s_is_within) := ⟨rfl, rfl, rfl, by decide +kernel, rfl, by decide +kernel, by decide +kernel⟩
theorem sc_is_name : FnScope ["value", "sign"] ["value"] (defScope s_is_name) := ⟨rfl, rfl, rfl, by decide +kernel, rfl, by decide +kernel, by decide +kernel⟩
theorem sc_is_listed : FnScope ["value"] ["value"] (defScope s_is_listed) := ⟨rfl, rfl, rfl, by decide +kernel, rfl, by decide +kernel, by decide +kernel⟩
/-- of the type of that name, from H on -/
def Is (K : Fr') (H : Hp) (x : V) (n : String) : Prop := Nm7 n ∧ ∀ H', Ex H H' → TyX K H' x (.type n)
def spInteger (K : Fr') : Sp := fun vs H Q _ => ∃ x n, vs = [x] ∧ Is K H x n ∧ RetV (.bl (n == "int")) H Q
def spListed (K : Fr') : Sp := fun vs H Q _ => ∃ x n, vs = [x] ∧ Is K H x n ∧ RetV (.bl (n == "list" || n == "tuple")) H Q
def isW (d : PyData) (lo hi : Int) : Bool := match d with
  | .int i => decide (lo ≤ i) && decide (i ≤ hi)
  | _ => false
def spWithin (K : Fr') : Sp := fun vs H Q _ => ∃ x d lo hi, vs = [x, .int lo, .int hi] ∧ Dp K H x d ∧ RetV (.bl (isW d lo hi)) H Q
section
variable {P : Program} {w : World} {K : Fr'} {mg : Str → Option Value} {base : Heap} {f : Addr} {fd : FuncData}
theorem ok_is_integer (F : FnP K "is_integer" s_is_integer f fd) (B : Blt mg) : FnOk P w K mg base CXn 1 f fd ["value"] (spInteger K) := by
  have nd := sc_is_integer.nd
  refine F.ok sc_is_integer (fun vs H Q E h => ?_) (fun cdv A outer s H vs Q E hr h => ⟨_, PSs.nox
    (pss_one (ps_ret (pe_and (pe_callB (call_isiK1 (K := K) rfl) (by rfl) B.isinstance (by decide +kernel) (pa_cons (pv 0) (pa_cons (pe_bltn (v := .ty "int") rfl B.int (by decide +kernel) rfl) pa_nil))) (pe_one (pe_not (pe_callB (call_isiK1 (K := K) rfl) (by rfl) B.isinstance (by decide +kernel) (pa_cons (pv 0) (pa_cons (pe_bltn (v := .ty "bool") rfl B.bool (by decide +kernel) rfl) pa_nil)))))))), ?_⟩)
  · obtain ⟨_, _, rfl, _⟩ := h; rfl
  · obtain ⟨x, n, rfl, ⟨hn, ht⟩, q⟩ := h
    refine s_ret (ev_is (ev_andV (ev_isi (ev_var rfl) ev_c ht (kit_int hn)) fun _ => ev_notV (ev_isi (ev_var rfl) ev_c ht (kit_bool hn))) ?_) q
    cases hn <;> rfl
theorem ok_is_listed (F : FnP K "is_listed" s_is_listed f fd) (B : Blt mg) : FnOk P w K mg base CXn 1 f fd ["value"] (spListed K) := by
  have nd := sc_is_listed.nd
  refine F.ok sc_is_listed (fun vs H Q E h => ?_) (fun cdv A outer s H vs Q E hr h => ⟨_, PSs.nox
    (pss_one (ps_ret (pe_callB (call_isiTK (K := K) rfl) (by rfl) B.isinstance (by decide +kernel) (pa_cons (pv 0) (pa_cons (pe_tup (pa_cons (pe_bltn (v := .ty "list") rfl B.list (by decide +kernel) rfl) (pa_cons (pe_bltn (v := .ty "tuple") rfl B.tuple (by decide +kernel) rfl) pa_nil))) pa_nil))))), ?_⟩)
  · obtain ⟨_, _, rfl, _⟩ := h; rfl
  · obtain ⟨x, n, rfl, ⟨hn, ht⟩, q⟩ := h
    refine s_ret (ev_is (ev_isi2 (ev_var rfl) ev_c ev_c ht (kit_list hn) (kit_tuple hn)) ?_) q
    cases hn <;> rfl
theorem is_dp {H : Hp} {x : V} {d : PyData} (h : Dp K H x d) : Is K H x (tn d) := ⟨tn_nm d, fun H' e => dp_ty (dp_ex e h)⟩
theorem ok_is_within (F : FnP K "is_within" s_is_within f fd) (G_is_integer : Cal P w K mg base CXn 1 "is_integer" ["value"] (spInteger K)) : FnOk P w K mg base CXn 2 f fd ["value", "least", "most"] (spWithin K) := by
  have nd := sc_is_within.nd
  refine F.ok sc_is_within (fun vs H Q E h => ?_) (fun cdv A outer s H vs Q E hr h => ⟨_, PSs.nox
    (pss_one (ps_ret (pe_and (pe_cal G_is_integer (hr.mono (by decide)) rfl pass0 (pa_cons (pv 0) pa_nil)) (pe_one (pe_chain op_le op_le (pv 1) (pv 0) (pv 2)))))), ?_⟩)
  · obtain ⟨_, _, _, _, rfl, _⟩ := h; rfl
  · obtain ⟨x, d, lo, hi, rfl, hd, q⟩ := h
    have hc : Ev (tCall (spInteger K) [] C8.E0 (tCons (tVar 0) tNil)) (L2.start ["value", "least", "most"] [x, .int lo, .int hi]) H (.bl (tn d == "int")) := ev_call (ea_cons (ev_var rfl) ea_nil) fun H1 e1 Q q E => ⟨_, _, rfl, is_dp (dp_ex e1 hd), q⟩
    cases hd with
    | int i => exact s_ret (ev_is (ev_andV hc fun _ => ev_chain (ev_var rfl) (ev_var rfl) rv_I0 (fun _ => ev_var rfl) (fun _ => rv_I0)) rfl) q
    | _ => exact s_ret (ev_is (ev_andV (b := false) hc fun z => by cases z) rfl) q
/-! ### names -/
def lets : List Nat := ("abcdefghijklmnopqrstuvwxyz" : Str).cps.toList
def figs : List Nat := ("0123456789" : Str).cps.toList
def okC (c : Nat) : Bool := decide (c ∈ lets) || decide (c ∈ figs)
def nmB (l : List Nat) : Bool := decide (1 ≤ l.length) && decide (l.length ≤ 8) && decide (l.headD 0 ∈ lets) && l.all okC
def isN (d : PyData) : Bool := match d with
  | .str s => nmB s.cps.toList
  | _ => false
/-- texts in it are no longer than a line -/
def Fit (d : PyData) : Prop := ∀ s, d = .str s → s.length < 90000
def chV (v : V) : Nat := match v with
  | .str s => s.cps.getD 0 0
  | _ => 0
def spName (K : Fr') : Sp := fun vs H Q _ => ∃ x d, vs = [x] ∧ Dp K H x d ∧ Fit d ∧ RetV (.bl (isN d)) H Q
theorem ev_inS {σ : St} {H : Hp} {ta tb : TE} {c : Nat} {z : Str} (ha : Ev ta σ H (.str ⟨#[c]⟩)) (hb : Ev tb σ H (.str z)) : Ev (tOp rInS ta tb) σ H (.bl (decide (c ∈ z.cps.toList))) := ev_op ha hb fun H1 _ Q q => ⟨c, z, rfl, rfl, q H1 (Ex.refl _)⟩
theorem ok_is_name (F : FnP K "is_name" s_is_name f fd) (B : Blt mg) (c_LETTERS : ∃ t, mg "LETTERS" = some (.str "abcdefghijklmnopqrstuvwxyz" t)) (c_FIGURES : ∃ t, mg "FIGURES" = some (.str "0123456789" t)) (c_LONGEST : ∃ t, mg "LONGEST" = some (.int 8 t)) : FnOk P w K mg base CXn 1 f fd ["value"] (spName K) := by
  have nd := sc_is_name.nd
  obtain ⟨tL, c_LETTERS⟩ := c_LETTERS
  obtain ⟨tF, c_FIGURES⟩ := c_FIGURES
  obtain ⟨tO, c_LONGEST⟩ := c_LONGEST
  refine F.ok sc_is_name (fun vs H Q E h => ?_) (fun cdv A outer s H vs Q E hr h => ⟨_, PSs.nox
    (pss_cons (ps_if (PW.pt (pw_or (pt_not (pt_val (pe_callB (call_isiK1 (K := K) rfl) (by rfl) B.isinstance (by decide +kernel) (pa_cons (pv 0) (pa_cons (pe_bltn (v := .ty "str") rfl B.str (by decide +kernel) rfl) pa_nil))))) (pw_or1 (pt_not (pt_chain op_le op_le pe_int (pe_callB (call_lenK (K := K) rfl) (by rfl) B.len (show bootBuiltins "len" = some (.builtin "len") by decide +kernel) (pa_cons (pv 0) pa_nil)) (pe_glob (v := .int 8) rfl c_LONGEST ⟨_, rfl⟩)))))) (pss_one (ps_ret pe_bl)) pss_nil)
      (pss_one (ps_ret (pe_and (pe_cmpR op_in_sign (pe_ix ix_str (pv 0) pe_int (fun _ _ => rfl)) (pe_glob (v := .str "abcdefghijklmnopqrstuvwxyz") rfl c_LETTERS ⟨_, rfl⟩) (by rfl)) (pe_one (pe_callB (cr_allK (K := K) rfl rfl) (by rfl) B.all (by decide +kernel) (pa_cons (pe_lc (own := [("sign", 1)]) (g := gName 1) (tt := tYes) rfl nd (pi_str (pv 0)) (blkOk_by (N := ["value", "sign"]) (sc := (defScope s_is_name)) (by decide +kernel)) (fun _ _ _ _ _ => (pg_name (i := 1) nd rfl (Or.inl rfl))) (fun _ _ _ _ _ => pts_nil) (fun _ _ _ _ _ => (pe_or (pe_cmpR op_in_sign (pv 1) (pe_glob (v := .str "abcdefghijklmnopqrstuvwxyz") rfl c_LETTERS ⟨_, rfl⟩) (by rfl)) (pe_one (pe_cmpR op_in_sign (pv 1) (pe_glob (v := .str "0123456789") rfl c_FIGURES ⟨_, rfl⟩) (by rfl)))))) pa_nil))))))), ?_⟩)
  · obtain ⟨_, _, rfl, _⟩ := h; rfl
  · obtain ⟨x, d, rfl, hd, hz, q⟩ := h
    have hi : EvT (tNot (tB (tCB (rIsi K) (tCons (tVar 0) (tCons (tC (.ty "str")) tNil))))) (L2.start ["value", "sign"] [x]) H (!(kitr (tn d) "str")) := et_not (et_B (ev_isi (ev_var rfl) ev_c (fun H1 e => dp_ty (dp_ex e hd)) (kit_str (tn_nm d))))
    cases hd with
    | str st =>
      have hL := hz st rfl
      have hl8 : st.length = st.cps.toList.length := TL.len_tl st
      have hsz : st.length ≤ sizeLine := Nat.le_of_lt (Nat.lt_of_lt_of_le hL (by decide))
      refine q_when (et_or hi fun _ => et_not (et_test (ev_chain ev_c (ev_cb (ea_cons (ev_var rfl) ea_nil) fun H1 _ Q q => ⟨_, _, rfl, ⟨hsz, rfl⟩, q H1 (Ex.refl _)⟩) rv_I0 (fun _ => ev_c) (fun _ => rv_I0)))) ?_ ?_
      · intro hb H1 e1
        refine s_ret ev_c fun H2 e2 => ?_
        have e : isN (.str st) = false := by
          have hb' : ¬ (1 ≤ st.length ∧ st.length ≤ 8) := by simp [kitr, tn] at hb; omega
          rw [hl8] at hb'
          show nmB st.cps.toList = false
          unfold nmB
          by_cases h1 : 1 ≤ st.cps.toList.length
          · have h2 : ¬ st.cps.toList.length ≤ 8 := fun z => hb' ⟨h1, z⟩
            rw [decide_eq_false h2, Bool.and_false, Bool.false_and, Bool.false_and]
          · rw [decide_eq_false h1, Bool.false_and, Bool.false_and, Bool.false_and]
        rw [← e]
        exact q H2 (e1.trans e2)
      · intro hb H1 e1
        have hb' : 1 ≤ st.length ∧ st.length ≤ 8 := by simp [kitr, tn] at hb; omega
        obtain ⟨c, r, hcr⟩ : ∃ c r, st.cps.toList = c :: r := by
          cases z : st.cps.toList with
          | nil => rw [hl8, z] at hb'; exact absurd hb'.1 (by decide)
          | cons c r => exact ⟨c, r, rfl⟩
        refine s_ret (ev_is (ev_andV (ev_inS (ev_op (ev_var rfl) ev_c (rv_ixS (c := c) (Nat.le_trans hb'.2 (by decide)) (by rw [hcr]; exact atI_nat (j := 0) rfl))) ev_c) fun _ => ev_allO (fun v => okC (chV v)) (src_s (ev_var rfl)) ?_ (fun _ => rfl) fun x H2 hx e2 => ?_) ?_) (fun H2 e2 => q H2 (e1.trans e2))
        · unfold Wh.signs
          rw [List.length_map, ← hl8]
          exact Nat.lt_of_lt_of_le hL (by decide)
        · obtain ⟨c', _, rfl⟩ := List.mem_map.mp hx
          exact ev_orV (ev_inS (ev_var rfl) ev_c) fun _ => ev_inS (ev_var rfl) ev_c
        · show _ = V.bl (nmB st.cps.toList)
          unfold nmB Wh.signs
          rw [List.all_map]
          have e8 : (decide (1 ≤ st.cps.toList.length) && decide (st.cps.toList.length ≤ 8)) = true := by rw [← hl8]; simpa using hb'
          rw [e8, Bool.true_and, hcr]
          rfl
    | _ => exact q_when (et_or (b := false) hi (fun z => by cases z)) (fun _ H1 e1 => s_ret ev_c fun H2 e2 => q H2 (e1.trans e2)) (fun z => by cases z)
/-! ### texts of rows and bits -/
abbrev s_row_text : Stmt := top 25
abbrev s_read_row : Stmt := top 26
abbrev s_bits_text : Stmt := top 27
abbrev s_read_bits : Stmt := top 28
theorem sc_row_text : FnScope ["row", "one"] ["row"] (defScope s_row_text) := ⟨rfl, rfl, rfl, by decide +kernel, rfl, by decide +kernel, by decide +kernel⟩
theorem sc_read_row : FnScope ["text", "one"] ["text"] (defScope s_read_row) := ⟨rfl, rfl, rfl, by decide +kernel, rfl, by decide +kernel, by decide +kernel⟩
theorem sc_bits_text : FnScope ["bits", "bit"] ["bits"] (defScope s_bits_text) := ⟨rfl, rfl, rfl, by decide +kernel, rfl, by decide +kernel, by decide +kernel⟩
theorem sc_read_bits : FnScope ["text", "sign"] ["text"] (defScope s_read_bits) := ⟨rfl, rfl, rfl, by decide +kernel, rfl, by decide +kernel, by decide +kernel⟩
def strOf (d : PyData) : Str := match d with
  | .str s => s
  | _ => ""
def rowT (ds : List PyData) : Option Str := if ds.all isN = true then some (if 0 < ds.length then Txt.join "," (ds.map strOf) else "-") else none
def retO (o : Option V) (f : List (Str × V)) (C : Addr) (E : XK) (H : Hp) (Q : VK) : Prop := match o with
  | some v => RetV v H Q
  | none => Rse E C f H
def spRowText (K : Fr') : Sp := fun vs H Q E => ∃ x, vs = [x] ∧ ((∃ n, Is K H x n ∧ (n == "list" || n == "tuple") = false ∧ Rse E (EC K .value) [("part", .str "row")] H) ∨
  (∃ a xs ds, x = .ref a ∧ (SqL K H a xs ∨ SqT K H a xs) ∧ DpAll K H xs ds ∧ (∀ d ∈ ds, Fit d) ∧ ds.length < 1000 ∧ retO ((rowT ds).map V.str) [("part", .str "row")] (EC K .value) E H Q))
theorem sq_is {H : Hp} {a : Addr} {xs : List V} (h : SqL K H a xs ∨ SqT K H a xs) : ∃ n, Is K H (.ref a) n ∧ (n == "list" || n == "tuple") = true := by
  rcases h with h | h
  · exact ⟨"list", ⟨.lst, fun H' e => sqL_ty (ex_l e h)⟩, rfl⟩
  · exact ⟨"tuple", ⟨.tup, fun H' e => sqT_ty (ex_t e h)⟩, rfl⟩
theorem strs_back {H : Hp} : ∀ {xs : List V} {ds : List PyData}, DpAll K H xs ds → ds.all isN = true → xs = (ds.map strOf).map V.str ∧ ((ds.map strOf).map (·.length)).sum ≤ 8 * ds.length
  | _, _, .nil, _ => ⟨rfl, by simp⟩
  | _, _, .cons (ds := ds) h1 h2, h => by
    rw [List.all_cons, Bool.and_eq_true] at h
    obtain ⟨i1, i2⟩ := strs_back h2 h.2
    cases h1 with
    | str s =>
      have h8 : s.length ≤ 8 := by
        have := h.1
        unfold isN nmB at this
        simp only [Bool.and_eq_true, decide_eq_true_eq] at this
        rw [TL.len_tl]
        exact this.1.1.2
      refine ⟨by rw [i1]; rfl, ?_⟩
      rw [List.map_cons, List.map_cons, List.sum_cons, List.length_cons]
      show s.length + _ ≤ _
      omega
    | _ => exact absurd h.1 Bool.false_ne_true
theorem ok_row_text (F : FnP K "row_text" s_row_text f fd) (B : Blt mg) (G_is_listed : Cal P w K mg base CXn 1 "is_listed" ["value"] (spListed K)) (G_is_name : Cal P w K mg base CXn 1 "is_name" ["value"] (spName K)) (e_BadValue : Err1 P K mg "BadValue" (EC K .value) "part") : FnOk P w K mg base (L2.CX P w) 3 f fd ["row"] (spRowText K) := by
  have nd := sc_row_text.nd
  refine F.ok sc_row_text (fun vs H Q E h => ?_) (fun cdv A outer s H vs Q E hr h => ?_)
  · obtain ⟨_, rfl, _⟩ := h; rfl
  have TK : Takes (cxOf (L2.CX P w) P w K mg base ["row", "one"] "row_text" (defScope s_row_text) f cdv A outer s H E) (fun cls d _ H => E cls d H) := takes_of rfl rfl rfl rfl
  refine ⟨_, (pss_cons (ps_if (PW.pt (pw_or (pt_not (pt_val (pe_cal G_is_listed (hr.mono (by decide)) rfl pass0 (pa_cons (pv 0) pa_nil)))) (pw_or1 (pt_not (pt_val (pe_callB (cr_allK (K := K) rfl rfl) (by rfl) B.all (by decide +kernel) (pa_cons (pe_lc (own := [("one", 1)]) (g := gName 1) (tt := tYes) rfl nd (pi_seqK (K := K) rfl (pv 0)) (blkOk_by (N := ["row", "one"]) (sc := (defScope s_row_text)) (by decide +kernel)) (fun _ _ _ _ _ => (pg_name (i := 1) nd rfl (Or.inl rfl))) (fun _ _ _ _ _ => pts_nil) (fun _ _ _ _ _ => (pe_cal G_is_name (hr.mono (by decide)) rfl pass0 (pa_cons (pv 1) pa_nil)))) pa_nil))))))) (pss_one (ps_raise rfl TK (pmk_err1 e_BadValue hr (pa_cons pe_str pa_nil)))) pss_nil)
      (pss_one (ps_ret (pe_ifExp (pt_cmpR op_gt (pe_callB (call_lenK (K := K) rfl) (by rfl) B.len (show bootBuiltins "len" = some (.builtin "len") by decide +kernel) (pa_cons (pv 0) pa_nil)) pe_int (nomark _)) (pe_join pe_str (pv 0)) pe_str)))), ?_⟩
  obtain ⟨x, rfl, h⟩ := h
  rcases h with ⟨n, hi, hn, hr⟩ | ⟨a, xs, ds, rfl, hs, hd, hfit, hlen, hret⟩
  · refine q_when (et_or (b := false) (et_not (et_B (ev_call (ea_cons (ev_var rfl) ea_nil) fun H1 e1 Q q E => ⟨_, n, rfl, ⟨hi.1, fun H' e => hi.2 H' (e1.trans e)⟩, q⟩))) fun z => ?_) (fun _ H1 e1 => rse1 ev_c e1 hr) (fun z => ?_)
    · rw [hn] at z; cases z
    · rw [hn] at z; cases z
  · obtain ⟨n, hi, hn⟩ := sq_is hs
    have hxl : xs.length < sizeLine := by rw [dpa_len hd]; exact Nat.lt_of_lt_of_le hlen (by decide)
    refine q_when (et_or (et_not (et_B (ev_call (ea_cons (ev_var rfl) ea_nil) fun H1 e1 Q q E => ⟨_, n, rfl, ⟨hi.1, fun H' e => hi.2 H' (e1.trans e)⟩, q⟩))) fun _ => et_not (et_B (ev_allD isN (src_sq (ev_var rfl) hs) hd hxl (fun _ => rfl) fun x d H2 hm hx e2 => ev_call (ea_cons (ev_var rfl) ea_nil) fun H3 e3 Q q E => ⟨x, d, rfl, dp_ex e3 hx, hfit d hm, q⟩))) (fun hb H1 e1 => ?_) (fun hb H1 e1 => ?_)
    · rw [hn] at hb
      have e : ds.all isN = false := by simpa using hb
      unfold rowT at hret
      rw [e] at hret
      exact rse1 ev_c e1 hret
    · rw [hn] at hb
      have e : ds.all isN = true := by simpa using hb
      unfold rowT at hret
      rw [if_pos e] at hret
      obtain ⟨ex, hsum⟩ := strs_back hd e
      have hjl : ((ds.map strOf).map (·.length)).sum + (ds.map strOf).length * ("," : Str).length ≤ 16777216 := by
        rw [List.length_map]
        show _ + ds.length * 1 ≤ _
        omega
      have hSx : ∀ H', Ex H1 H' → SqL K H' a ((ds.map strOf).map V.str) ∨ SqT K H' a ((ds.map strOf).map V.str) := fun H' e => by
        rw [← ex]
        exact hs.imp (ex_l (e1.trans e)) (ex_t (e1.trans e))
      refine s_ret (ev_if (v := V.str (if 0 < ds.length then Txt.join "," (ds.map strOf) else "-")) (et_test (ev_op (ev_cb (ea_cons (ev_var rfl) ea_nil) fun H2 e2 Q q => ⟨_, xs.length, rfl, ?_, q H2 (Ex.refl _)⟩) ev_c rv_I0))
        (fun hb => ev_is (ev_m1 ev_c (ev_var rfl) fun H2 e2 Q q => ⟨_, a, ds.map strOf, rfl, rfl, hSx H2 e2, hjl, q⟩) ?_) (fun hb => ev_is ev_c ?_)) (fun H2 e2 => hret H2 (e1.trans e2))
      · show (∃ xs', SqL K H2 a xs' ∧ xs.length = xs'.length) ∨ (∃ xs', SqT K H2 a xs' ∧ xs.length = xs'.length)
        exact hs.imp (fun z => ⟨xs, ex_l (e1.trans e2) z, rfl⟩) (fun z => ⟨xs, ex_t (e1.trans e2) z, rfl⟩)
      · rw [dpa_len hd] at hb
        have : 0 < ds.length := by have := of_decide_eq_true hb; omega
        rw [if_pos this]
      · rw [dpa_len hd] at hb
        have : ¬ 0 < ds.length := by have := of_decide_eq_false hb; omega
        rw [if_neg this]
def isB (d : PyData) : Bool := isW d 0 1
def bitOf (d : PyData) : Str := match d with
  | .int i => Str.ofString (toString i)
  | _ => ""
def bitsT (ds : List PyData) : Option Str := if ds.all isB = true then some (if 0 < ds.length then Txt.join "" (ds.map bitOf) else "-") else none
def spBitsText (K : Fr') : Sp := fun vs H Q E => ∃ x, vs = [x] ∧ ((∃ n, Is K H x n ∧ (n == "list" || n == "tuple") = false ∧ Rse E (EC K .value) [("part", .str "bits")] H) ∨
  (∃ a xs ds, x = .ref a ∧ (SqL K H a xs ∨ SqT K H a xs) ∧ DpAll K H xs ds ∧ ds.length < 1000 ∧ retO ((bitsT ds).map V.str) [("part", .str "bits")] (EC K .value) E H Q))
theorem bit_cases {d : PyData} (h : isB d = true) : d = .int 0 ∨ d = .int 1 := by
  cases d with
  | int i =>
    have h' : (decide (0 ≤ i) && decide (i ≤ 1)) = true := h
    simp only [Bool.and_eq_true, decide_eq_true_eq] at h'
    obtain ⟨h1, h2⟩ := h'
    rcases (by omega : i = 0 ∨ i = 1) with rfl | rfl
    · exact .inl rfl
    · exact .inr rfl
  | _ => exact absurd h Bool.false_ne_true
theorem bit_len {ds : List PyData} (h : ds.all isB = true) : ((ds.map bitOf).map (·.length)).sum = ds.length := by
  induction ds with
  | nil => rfl
  | cons d ds ih =>
    rw [List.all_cons, Bool.and_eq_true] at h
    rw [List.map_cons, List.map_cons, List.sum_cons, List.length_cons, ih h.2]
    have : (bitOf d).length = 1 := by rcases bit_cases h.1 with rfl | rfl <;> decide
    rw [this, Nat.add_comm]
theorem ok_bits_text (F : FnP K "bits_text" s_bits_text f fd) (B : Blt mg) (G_is_listed : Cal P w K mg base CXn 1 "is_listed" ["value"] (spListed K)) (G_is_within : Cal P w K mg base CXn 2 "is_within" ["value", "least", "most"] (spWithin K)) (e_BadValue : Err1 P K mg "BadValue" (EC K .value) "part") : FnOk P w K mg base (L2.CX P w) 3 f fd ["bits"] (spBitsText K) := by
  have nd := sc_bits_text.nd
  refine F.ok sc_bits_text (fun vs H Q E h => ?_) (fun cdv A outer s H vs Q E hr h => ?_)
  · obtain ⟨_, rfl, _⟩ := h; rfl
  have TK : Takes (cxOf (L2.CX P w) P w K mg base ["bits", "bit"] "bits_text" (defScope s_bits_text) f cdv A outer s H E) (fun cls d _ H => E cls d H) := takes_of rfl rfl rfl rfl
  refine ⟨_, (pss_cons (ps_if (PW.pt (pw_or (pt_not (pt_val (pe_cal G_is_listed (hr.mono (by decide)) rfl pass0 (pa_cons (pv 0) pa_nil)))) (pw_or1 (pt_not (pt_val (pe_callB (cr_allK (K := K) rfl rfl) (by rfl) B.all (by decide +kernel) (pa_cons (pe_lc (own := [("bit", 1)]) (g := gName 1) (tt := tYes) rfl nd (pi_seqK (K := K) rfl (pv 0)) (blkOk_by (N := ["bits", "bit"]) (sc := (defScope s_bits_text)) (by decide +kernel)) (fun _ _ _ _ _ => (pg_name (i := 1) nd rfl (Or.inl rfl))) (fun _ _ _ _ _ => pts_nil) (fun _ _ _ _ _ => (pe_cal G_is_within (hr.mono (by decide)) rfl pass0 (pa_cons (pv 1) (pa_cons pe_int (pa_cons pe_int pa_nil)))))) pa_nil))))))) (pss_one (ps_raise rfl TK (pmk_err1 e_BadValue hr (pa_cons pe_str pa_nil)))) pss_nil)
      (pss_one (ps_ret (pe_ifExp (pt_cmpR op_gt (pe_callB (call_lenK (K := K) rfl) (by rfl) B.len (show bootBuiltins "len" = some (.builtin "len") by decide +kernel) (pa_cons (pv 0) pa_nil)) pe_int (nomark _)) (pe_join pe_str (pe_lc (own := [("bit", 1)]) (g := gName 1) (tt := tYes) rfl nd (pi_seqK (K := K) rfl (pv 0)) (blkOk_by (N := ["bits", "bit"]) (sc := (defScope s_bits_text)) (by decide +kernel)) (fun _ _ _ _ _ => (pg_name (i := 1) nd rfl (Or.inl rfl))) (fun _ _ _ _ _ => pts_nil) (fun _ _ _ _ _ => (pe_callTy call_str_int (by rfl) B.str (by decide +kernel) (pa_cons (pv 1) pa_nil))))) pe_str)))), ?_⟩
  obtain ⟨x, rfl, h⟩ := h
  rcases h with ⟨n, hi, hn, hr⟩ | ⟨a, xs, ds, rfl, hs, hd, hlen, hret⟩
  · refine q_when (et_or (b := false) (et_not (et_B (ev_call (ea_cons (ev_var rfl) ea_nil) fun H1 e1 Q q E => ⟨_, n, rfl, ⟨hi.1, fun H' e => hi.2 H' (e1.trans e)⟩, q⟩))) fun z => ?_) (fun _ H1 e1 => rse1 ev_c e1 hr) (fun z => ?_)
    · rw [hn] at z; cases z
    · rw [hn] at z; cases z
  · obtain ⟨n, hi, hn⟩ := sq_is hs
    have hxl : xs.length < sizeLine := by rw [dpa_len hd]; exact Nat.lt_of_lt_of_le hlen (by decide)
    refine q_when (et_or (et_not (et_B (ev_call (ea_cons (ev_var rfl) ea_nil) fun H1 e1 Q q E => ⟨_, n, rfl, ⟨hi.1, fun H' e => hi.2 H' (e1.trans e)⟩, q⟩))) fun _ => et_not (et_B (ev_allD isB (src_sq (ev_var rfl) hs) hd hxl (fun _ => rfl) fun x d H2 hm hx e2 => ev_call (ea_cons (ev_var rfl) (ea_cons ev_c (ea_cons ev_c ea_nil))) fun H3 e3 Q q E => ⟨x, d, 0, 1, rfl, dp_ex e3 hx, q⟩))) (fun hb H1 e1 => ?_) (fun hb H1 e1 => ?_)
    · rw [hn] at hb
      have e : ds.all isB = false := by simpa using hb
      unfold bitsT at hret
      rw [e] at hret
      exact rse1 ev_c e1 hret
    · rw [hn] at hb
      have e : ds.all isB = true := by simpa using hb
      unfold bitsT at hret
      rw [if_pos e] at hret
      have hjl : ((ds.map bitOf).map (·.length)).sum + (ds.map bitOf).length * ("" : Str).length ≤ 16777216 := by
        rw [bit_len e]
        show _ + _ * 0 ≤ _
        omega
      refine s_ret (ev_if (v := V.str (if 0 < ds.length then Txt.join "" (ds.map bitOf) else "-")) (et_test (ev_op (ev_cb (ea_cons (ev_var rfl) ea_nil) fun H2 e2 Q q => ⟨_, xs.length, rfl, ?_, q H2 (Ex.refl _)⟩) ev_c rv_I0))
        (fun hb => ev_is (ev_m1L ev_c (el_mapD (fun d => V.str (bitOf d)) (src_sq (ev_var rfl) (hs.imp (ex_l e1) (ex_t e1))) (dpa_gr (Gr.ex e1) _ hd) hxl (fun _ => rfl) fun x d H2 hm hx e2 => ?_) fun p H2 h2 e2 Q q => ⟨_, p, ds.map bitOf, rfl, rfl, .inl (by rw [List.map_map]; exact sq_of h2), hjl, q⟩) ?_) (fun hb => ev_is ev_c ?_)) (fun H2 e2 => hret H2 (e1.trans e2))
      · show (∃ xs', SqL K H2 a xs' ∧ xs.length = xs'.length) ∨ (∃ xs', SqT K H2 a xs' ∧ xs.length = xs'.length)
        exact hs.imp (fun z => ⟨xs, ex_l (e1.trans e2) z, rfl⟩) (fun z => ⟨xs, ex_t (e1.trans e2) z, rfl⟩)
      · rcases bit_cases (List.all_eq_true.mp e d hm) with rfl | rfl
        · cases hx
          exact ev_cb (ea_cons (ev_var rfl) ea_nil) fun H3 e3 Q q => ⟨0, rfl, by decide, q H3 (Ex.refl _)⟩
        · cases hx
          exact ev_cb (ea_cons (ev_var rfl) ea_nil) fun H3 e3 Q q => ⟨1, rfl, by decide, q H3 (Ex.refl _)⟩
      · rw [dpa_len hd] at hb
        have : 0 < ds.length := by have := of_decide_eq_true hb; omega
        rw [if_pos this]
      · rw [dpa_len hd] at hb
        have : ¬ 0 < ds.length := by have := of_decide_eq_false hb; omega
        rw [if_neg this]
/-! ### reading -/
def readRow (d : PyData) : Option (List Str) := match d with
  | .str s => if s = "-" then some [] else if (Txt.split s ",").all (fun z => nmB z.cps.toList) = true then some (Txt.split s ",") else none
  | _ => none
def retT (o : Option (List V)) (f : List (Str × V)) (C : Addr) (E : XK) (H : Hp) (Q : VK) : Prop := match o with
  | some vs => RetT vs H Q
  | none => Rse E C f H
def spReadRow (K : Fr') : Sp := fun vs H Q E => ∃ x d, vs = [x] ∧ Dp K H x d ∧ SeqAt.shaped d = true ∧ (∀ s, d = .str s → s.length < 5000) ∧ retT ((readRow d).map fun l => l.map V.str) [("line", .int 0), ("word", .int 0)] (EC K .text) E H Q
def dash (d : PyData) : Bool := match d with
  | .str s => s == "-"
  | _ => false
theorem eqv_dash (d : PyData) : PyData.eqv d (.str "-") = dash d := by cases d <;> rfl
theorem spl_in : ∀ (l acc : List Nat), (TL.spl [44] 0 acc l).length ≤ l.length + 1 ∧ ∀ p ∈ TL.spl [44] 0 acc l, p.length ≤ acc.length + l.length ∧ ∀ x ∈ p, x ∈ acc ∨ x ∈ l
  | [], acc => ⟨by show 1 ≤ 1; decide, fun p hp => by
      have : p = acc := by simpa [TL.spl] using hp
      subst this
      exact ⟨by simp, fun x hx => .inl hx⟩⟩
  | d :: r, acc => by
    by_cases h : TL.pre [44] (d :: r) = true
    · rw [TL.spl_hit h]
      obtain ⟨i1, i2⟩ := spl_in r []
      refine ⟨by show _ + 1 ≤ r.length + 1 + 1; exact Nat.succ_le_succ i1, fun p hp => ?_⟩
      rcases List.mem_cons.mp hp with rfl | hp
      · exact ⟨Nat.le_add_right _ _, fun x hx => .inl hx⟩
      · obtain ⟨j1, j2⟩ := i2 p hp
        refine ⟨by simp at j1 ⊢; omega, fun x hx => ?_⟩
        rcases j2 x hx with z | z
        · cases z
        · exact .inr (List.mem_cons_of_mem _ z)
    · rw [TL.spl_miss (by simpa using h)]
      obtain ⟨i1, i2⟩ := spl_in r (acc ++ [d])
      refine ⟨Nat.le_succ_of_le i1, fun p hp => ?_⟩
      obtain ⟨j1, j2⟩ := i2 p hp
      refine ⟨by simp at j1 ⊢; omega, fun x hx => ?_⟩
      rcases j2 x hx with z | z
      · rcases List.mem_append.mp z with z | z
        · exact .inl z
        · exact .inr (by rw [List.mem_singleton.mp z]; exact List.mem_cons_self ..)
      · exact .inr (List.mem_cons_of_mem _ z)
theorem split_tl (s : Str) : (Txt.split s ",").map TL.tl = TL.spl [44] 0 [] (TL.tl s) := TL.split_spl s "," (by decide +kernel) (TL.kind_ok (by decide +kernel))
theorem split_in (s : Str) : ∀ z ∈ Txt.split s ",", z.length ≤ s.length ∧ ∀ x ∈ TL.tl z, x ∈ TL.tl s := fun z hz => by
  have h := List.mem_map_of_mem (f := TL.tl) hz
  rw [split_tl] at h
  obtain ⟨j1, j2⟩ := (spl_in (TL.tl s) []).2 _ h
  refine ⟨by rw [TL.len_tl, TL.len_tl]; simpa using j1, fun x hx => ?_⟩
  rcases j2 x hx with z | z
  · cases z
  · exact z
theorem split_lens (s : Str) : (∀ z ∈ Txt.split s ",", z.length ≤ s.length) ∧ (Txt.split s ",").length ≤ s.length + 1 := by
  refine ⟨fun z hz => (split_in s z hz).1, ?_⟩
  have := (spl_in (TL.tl s) []).1
  rw [← split_tl, List.length_map] at this
  rwa [TL.len_tl]
theorem readRow_str (s : Str) : readRow (.str s) = if s = "-" then some [] else if (Txt.split s ",").all (fun z => nmB z.cps.toList) = true then some (Txt.split s ",") else none := rfl
theorem dp_strs {H : Hp} : ∀ l : List Str, DpAll K H (l.map V.str) (l.map PyData.str)
  | [] => .nil
  | x :: l => .cons (.str x) (dp_strs l)
theorem ok_read_row (F : FnP K "read_row" s_read_row f fd) (B : Blt mg) (G_is_name : Cal P w K mg base CXn 1 "is_name" ["value"] (spName K)) (e_BadText : Err2 P K mg "BadText" (EC K .text) "line" "word") : FnOk P w K mg base (L2.CX P w) 3 f fd ["text"] (spReadRow K) := by
  have nd := sc_read_row.nd
  refine F.ok sc_read_row (fun vs H Q E h => ?_) (fun cdv A outer s H vs Q E hr h => ?_)
  · obtain ⟨_, _, rfl, _⟩ := h; rfl
  have TK : Takes (cxOf (L2.CX P w) P w K mg base ["text", "one"] "read_row" (defScope s_read_row) f cdv A outer s H E) (fun cls d _ H => E cls d H) := takes_of rfl rfl rfl rfl
  refine ⟨_, (pss_cons (ps_if (pt_cmpR (op_eqDK (K := K) rfl hr.units) (pv 0) pe_str (nomark _)) (pss_one (ps_ret (pe_tup pa_nil))) pss_nil)
      (pss_cons (ps_if (PW.pt (pw_or (pt_not (pt_val (pe_callB (call_isiK1 (K := K) rfl) (by rfl) B.isinstance (by decide +kernel) (pa_cons (pv 0) (pa_cons (pe_bltn (v := .ty "str") rfl B.str (by decide +kernel) rfl) pa_nil))))) (pw_or1 (pt_not (pt_val (pe_callB (cr_allK (K := K) rfl rfl) (by rfl) B.all (by decide +kernel) (pa_cons (pe_lc (own := [("one", 1)]) (g := gName 1) (tt := tYes) rfl nd (pi_listK (K := K) rfl (pe_split (pv 0) pe_str)) (blkOk_by (N := ["text", "one"]) (sc := (defScope s_read_row)) (by decide +kernel)) (fun _ _ _ _ _ => (pg_name (i := 1) nd rfl (Or.inl rfl))) (fun _ _ _ _ _ => pts_nil) (fun _ _ _ _ _ => (pe_cal G_is_name (hr.mono (by decide)) rfl pass0 (pa_cons (pv 1) pa_nil)))) pa_nil))))))) (pss_one (ps_raise rfl TK (pmk_err2 e_BadText hr (pa_cons pe_int (pa_cons pe_int pa_nil))))) pss_nil)
      (pss_one (ps_ret (pe_callTy (call_tuple_ofK (K := K) rfl) (by rfl) B.tuple (by decide +kernel) (pa_cons (pe_split (pv 0) pe_str) pa_nil)))))), ?_⟩
  obtain ⟨x, d, rfl, hd, hsh, hl, h⟩ := h
  have hE : Ev (tOp (rEqD K) (tVar 0) (tC (.str "-"))) (L2.start ["text", "one"] [x]) H (.bl (dash d)) := by
    rw [← eqv_dash]
    exact ev_eqD (ev_var rfl) ev_c hd (.str _) hsh (by decide +kernel)
  refine q_when (et_test hE) (fun hb H1 e1 => ?_) (fun hb H1 e1 => ?_)
  · have e : readRow d = some [] := by
      cases d with
      | str s => exact if_pos (eq_of_beq hb)
      | _ => cases hb
    rw [e] at h
    exact s_retU (eu_tup ea_nil (by decide)) fun p H2 _ e2 h2 => h p H2 (e1.trans e2) h2
  · have hi : ∀ H', Ex H H' → EvT (tNot (tB (tCB (rIsi K) (tCons (tVar 0) (tCons (tC (.ty "str")) tNil))))) (L2.start ["text", "one"] [x]) H' (!(kitr (tn d) "str")) := fun H' e => et_not (et_B (ev_isi (ev_var rfl) ev_c (fun H1 e1 => dp_ty (dp_ex (e.trans e1) hd)) (kit_str (tn_nm d))))
    cases hd with
    | str st =>
      have hL := hl st rfl
      have hne : ¬ st = "-" := fun z => by rw [z] at hb; cases hb
      have hsp : ∀ H', EvL (tM1 (fun x xs H Q => ∃ a b, x = .str a ∧ xs = [.str b] ∧ (b.length == 0) = false ∧ a.length + 2 ≤ sizeLine ∧ rNewStrs (Txt.split a b) H Q) (tVar 0) (tC (.str ","))) (L2.start ["text", "one"] [.str st]) H' ((Txt.split st ",").map V.str) := fun H' =>
        el_m1 (ev_var rfl) ev_c fun H2 e2 Q q => ⟨st, ",", rfl, rfl, rfl, Nat.le_trans (by omega : st.length + 2 ≤ 5002) (by decide), q⟩
      have hxl : ((Txt.split st ",").map V.str).length < sizeLine := by
        rw [List.length_map]
        exact Nat.lt_of_le_of_lt (split_lens st).2 (Nat.lt_of_lt_of_le (by omega : st.length + 1 < 5002) (by decide))
      refine q_when (et_or (hi H1 e1) fun _ => et_not (et_B (ev_allD isN (src_nl (hsp H1)) (dp_strs _) hxl (fun _ => rfl) fun x d H2 hm hx e2 => ev_call (ea_cons (ev_var rfl) ea_nil) fun H3 e3 Q q E => ⟨x, d, rfl, dp_ex e3 hx, ?_, q⟩))) (fun hb2 H2 e2 => ?_) (fun hb2 H2 e2 => ?_)
      · obtain ⟨z, hz, rfl⟩ := List.mem_map.mp hm
        intro s' es
        cases es
        exact Nat.lt_of_le_of_lt ((split_lens st).1 z hz) (by omega)
      · have e : ((Txt.split st ",").all fun z => nmB z.cps.toList) = false := by
          have : (((Txt.split st ",").map PyData.str).all isN) = false := by simpa [kitr, tn] using hb2
          rw [List.all_map] at this
          exact this
        rw [readRow_str, if_neg hne, e] at h
        exact rse2 ev_c ev_c (e1.trans e2) h
      · have e : ((Txt.split st ",").all fun z => nmB z.cps.toList) = true := by
          have : (((Txt.split st ",").map PyData.str).all isN) = true := by simpa [kitr, tn] using hb2
          rw [List.all_map] at this
          exact this
        rw [readRow_str, if_neg hne, if_pos e] at h
        exact s_retU (eu_tupleL (hsp H2)) fun p H3 _ e3 h3 => h p H3 ((e1.trans e2).trans e3) h3
    | _ => exact q_when (et_or (b := false) (hi H1 e1) (fun z => by cases z)) (fun _ H2 e2 => rse2 ev_c ev_c (e1.trans e2) h) (fun z => by cases z)
def b01 (c : Nat) : Bool := decide (c ∈ ("01" : Str).cps.toList)
def readBits (d : PyData) : Option (List Int) := match d with
  | .str s => if s = "-" then some [] else if s = "" then none else if s.cps.toList.all b01 = true then some (s.cps.toList.map fun (c : Nat) => (c : Int) - 48) else none
  | _ => none
theorem readBits_str (s : Str) : readBits (.str s) = if s = "-" then some [] else if s = "" then none else if s.cps.toList.all b01 = true then some (s.cps.toList.map fun (c : Nat) => (c : Int) - 48) else none := rfl
def spReadBits (K : Fr') : Sp := fun vs H Q E => ∃ x d, vs = [x] ∧ Dp K H x d ∧ SeqAt.shaped d = true ∧ (∀ s, d = .str s → s.length < 5000) ∧ retT ((readBits d).map fun l => l.map V.int) [("line", .int 0), ("word", .int 0)] (EC K .text) E H Q
def empt (d : PyData) : Bool := match d with
  | .str s => s == ""
  | _ => false
theorem eqv_empt (d : PyData) : PyData.eqv d (.str "") = empt d := by cases d <;> rfl
theorem b01_cases {c : Nat} (h : b01 c = true) : c = 48 ∨ c = 49 := by
  have h' : c ∈ [48, 49] := by
    have := of_decide_eq_true h
    exact this
  simpa using h'
theorem ok_read_bits (F : FnP K "read_bits" s_read_bits f fd) (B : Blt mg) (e_BadText : Err2 P K mg "BadText" (EC K .text) "line" "word") : FnOk P w K mg base (L2.CX P w) 3 f fd ["text"] (spReadBits K) := by
  have nd := sc_read_bits.nd
  refine F.ok sc_read_bits (fun vs H Q E h => ?_) (fun cdv A outer s H vs Q E hr h => ?_)
  · obtain ⟨_, _, rfl, _⟩ := h; rfl
  have TK : Takes (cxOf (L2.CX P w) P w K mg base ["text", "sign"] "read_bits" (defScope s_read_bits) f cdv A outer s H E) (fun cls d _ H => E cls d H) := takes_of rfl rfl rfl rfl
  refine ⟨_, (pss_cons (ps_if (pt_cmpR (op_eqDK (K := K) rfl hr.units) (pv 0) pe_str (nomark _)) (pss_one (ps_ret (pe_tup pa_nil))) pss_nil)
      (pss_cons (ps_if (PW.pt (pw_or (pt_not (pt_val (pe_callB (call_isiK1 (K := K) rfl) (by rfl) B.isinstance (by decide +kernel) (pa_cons (pv 0) (pa_cons (pe_bltn (v := .ty "str") rfl B.str (by decide +kernel) rfl) pa_nil))))) (pw_or (pt_cmpR (op_eqDK (K := K) rfl hr.units) (pv 0) pe_str (nomark _)) (pw_or1 (pt_not (pt_val (pe_callB (cr_allK (K := K) rfl rfl) (by rfl) B.all (by decide +kernel) (pa_cons (pe_lc (own := [("sign", 1)]) (g := gName 1) (tt := tYes) rfl nd (pi_str (pv 0)) (blkOk_by (N := ["text", "sign"]) (sc := (defScope s_read_bits)) (by decide +kernel)) (fun _ _ _ _ _ => (pg_name (i := 1) nd rfl (Or.inl rfl))) (fun _ _ _ _ _ => pts_nil) (fun _ _ _ _ _ => (pe_cmpR op_in_sign (pv 1) pe_str (by rfl)))) pa_nil)))))))) (pss_one (ps_raise rfl TK (pmk_err2 e_BadText hr (pa_cons pe_int (pa_cons pe_int pa_nil))))) pss_nil)
      (pss_one (ps_ret (pe_callTy (call_tuple_ofK (K := K) rfl) (by rfl) B.tuple (by decide +kernel) (pa_cons (pe_lc (own := [("sign", 1)]) (g := gName 1) (tt := tYes) rfl nd (pi_str (pv 0)) (blkOk_by (N := ["text", "sign"]) (sc := (defScope s_read_bits)) (by decide +kernel)) (fun _ _ _ _ _ => (pg_name (i := 1) nd rfl (Or.inl rfl))) (fun _ _ _ _ _ => pts_nil) (fun _ _ _ _ _ => (pe_callTy call_int_str (by rfl) B.int (by decide +kernel) (pa_cons (pv 1) pa_nil)))) pa_nil)))))), ?_⟩
  obtain ⟨x, d, rfl, hd, hsh, hl, h⟩ := h
  have hE : Ev (tOp (rEqD K) (tVar 0) (tC (.str "-"))) (L2.start ["text", "sign"] [x]) H (.bl (dash d)) := by
    rw [← eqv_dash]
    exact ev_eqD (ev_var rfl) ev_c hd (.str _) hsh (by decide +kernel)
  refine q_when (et_test hE) (fun hb H1 e1 => ?_) (fun hb H1 e1 => ?_)
  · have e : readBits d = some [] := by
      cases d with
      | str s => exact if_pos (eq_of_beq hb)
      | _ => cases hb
    rw [e] at h
    exact s_retU (eu_tup ea_nil (by decide)) fun p H2 _ e2 h2 => h p H2 (e1.trans e2) h2
  · have hi : ∀ H', Ex H H' → EvT (tNot (tB (tCB (rIsi K) (tCons (tVar 0) (tCons (tC (.ty "str")) tNil))))) (L2.start ["text", "sign"] [x]) H' (!(kitr (tn d) "str")) := fun H' e => et_not (et_B (ev_isi (ev_var rfl) ev_c (fun H1 e1 => dp_ty (dp_ex (e.trans e1) hd)) (kit_str (tn_nm d))))
    have hE2 : Ev (tOp (rEqD K) (tVar 0) (tC (.str ""))) (L2.start ["text", "sign"] [x]) H1 (.bl (empt d)) := by
      rw [← eqv_empt]
      exact ev_eqD (ev_var rfl) ev_c (dp_ex e1 hd) (.str _) hsh (by decide +kernel)
    cases hd with
    | str st =>
      have hL := hl st rfl
      have hl8 : st.length = st.cps.toList.length := TL.len_tl st
      have hne : ¬ st = "-" := fun z => by rw [z] at hb; cases hb
      have hxl : (Wh.signs st).length < sizeLine := by
        unfold Wh.signs
        rw [List.length_map, ← hl8]
        exact Nat.lt_of_lt_of_le hL (by decide)
      refine q_when (et_or (hi H1 e1) fun _ => et_or (et_test hE2) fun _ => et_not (et_B (ev_allO (fun v => b01 (chV v)) (src_s (ev_var rfl)) hxl (fun _ => rfl) fun x H2 hx e2 => ?_))) (fun hb2 H2 e2 => ?_) (fun hb2 H2 e2 => ?_)
      · obtain ⟨c', _, rfl⟩ := List.mem_map.mp hx
        exact ev_inS (ev_var rfl) ev_c
      · have ea : (Wh.signs st).all (fun v => b01 (chV v)) = st.cps.toList.all b01 := by unfold Wh.signs; rw [List.all_map]; rfl
        rw [ea] at hb2
        rw [readBits_str, if_neg hne] at h
        by_cases he : st = ""
        · rw [if_pos he] at h
          exact rse2 ev_c ev_c (e1.trans e2) h
        · have h0 : empt (.str st) = false := beq_false_of_ne he
          have e : st.cps.toList.all b01 = false := by rw [h0] at hb2; simpa [kitr, tn] using hb2
          rw [if_neg he, e] at h
          exact rse2 ev_c ev_c (e1.trans e2) h
      · have ea : (Wh.signs st).all (fun v => b01 (chV v)) = st.cps.toList.all b01 := by unfold Wh.signs; rw [List.all_map]; rfl
        rw [ea] at hb2
        simp only [Bool.or_eq_false_iff, Bool.not_eq_false'] at hb2
        have he : ¬ st = "" := fun z => by have := hb2.2.1; rw [z] at this; cases this
        have e := hb2.2.2
        rw [readBits_str, if_neg hne, if_neg he, if_pos e] at h
        have hm : mapF (fun _ => true) (fun v => V.int ((chV v : Int) - 48)) (Wh.signs st) = (st.cps.toList.map fun (c : Nat) => (c : Int) - 48).map V.int := by
          unfold mapF Wh.signs
          rw [List.filter_eq_self.mpr (fun _ _ => rfl), List.map_map, List.map_map]
          rfl
        refine s_retU (eu_tupleL (xs := (st.cps.toList.map fun (c : Nat) => (c : Int) - 48).map V.int) ?_) fun p H3 _ e3 h3 => h p H3 ((e1.trans e2).trans e3) h3
        rw [← hm]
        refine el_lcO (fun _ => true) (fun v => V.int ((chV v : Int) - 48)) (src_s (ev_var rfl)) hxl (fun _ => rfl) (fun x H3 hx e3 => fun H4 _ Q q => q H4 (Ex.refl _)) fun x H3 hx _ e3 => ?_
        obtain ⟨c', hc', rfl⟩ := List.mem_map.mp hx
        rcases b01_cases (List.all_eq_true.mp e c' hc') with rfl | rfl
        · exact ev_cb (ea_cons (ev_var rfl) ea_nil) fun H3 e3 Q q => ⟨_, 0, rfl, by decide +kernel, by decide, q H3 (Ex.refl _)⟩
        · exact ev_cb (ea_cons (ev_var rfl) ea_nil) fun H3 e3 Q q => ⟨_, 1, rfl, by decide +kernel, by decide, q H3 (Ex.refl _)⟩
    | _ => exact q_when (et_or (b := false) (hi H1 e1) (fun z => by cases z)) (fun _ H2 e2 => rse2 ev_c ev_c (e1.trans e2) h) (fun z => by cases z)
end
end K88
/-! ## K88Pen -/
set_option Elab.async false
set_option linter.all false
set_option maxRecDepth 100000
set_option maxHeartbeats 4000000
namespace K88
open PySem PySem.Spec PyProof.Rows L2 He Wh Evl LamX
abbrev s__law_e_pen : Stmt := top 30
abbrev s__law_e_draw : Stmt := top 31
abbrev s__law_e_pick : Stmt := top 32
theorem sc_pen : FnScope ["script", "cell"] ["script"] (defScope s__law_e_pen) := ⟨rfl, rfl, rfl, by decide +kernel, rfl, by decide +kernel, by decide +kernel⟩
theorem sc_draw : FnScope ["pen", "many", "left", "at", "cells", "cell", "stirred"] ["pen", "many"] (defScope s__law_e_draw) := ⟨rfl, rfl, rfl, by decide +kernel, rfl, by decide +kernel, by decide +kernel⟩
theorem sc_pick : FnScope ["pen", "some"] ["pen", "some"] (defScope s__law_e_pick) := ⟨rfl, rfl, rfl, by decide +kernel, rfl, by decide +kernel, by decide +kernel⟩
section
variable {P : Program} {w : World} {K : Fr'} {mg : Str → Option Value} {base : Heap} {f : Addr} {fd : FuncData}
theorem ok_pen (F : FnP K "_law_e_pen" s__law_e_pen f fd) (B : Blt mg) : FnOk P w K mg base CXn 1 f fd ["script"] (spPen K) := by
  have nd := sc_pen.nd
  refine F.ok sc_pen (fun vs H Q E h => ?_) (fun cdv A outer s H vs Q E hr h => ⟨_, PSs.nox
    (pss_one (ps_ret (pe_disp (pps_cons pe_str (pe_lc (own := [("cell", 1)]) (g := gName 1) (tt := tYes) rfl nd (pi_listK (K := K) rfl (pe_slice (sl_listK (K := K) rfl) (pv 0) po_none (po_some pe_int))) (blkOk_by (N := ["script", "cell"]) (sc := (defScope s__law_e_pen)) (by decide +kernel)) (fun _ _ _ _ _ => (pg_name (i := 1) nd rfl (Or.inl rfl))) (fun _ _ _ _ _ => pts_nil) (fun _ _ _ _ _ => (pe_callTy call_int1 (by rfl) B.int (by decide +kernel) (pa_cons (pv 1) pa_nil)))) (pps_cons pe_str pe_int (pps_cons pe_str pe_int pps_nil))) (by rfl) (by rfl) (fun z => by cases z) (by decide)))), ?_⟩)
  · obtain ⟨_, _, rfl, _⟩ := h; rfl
  · obtain ⟨a, ns, rfl, hs, hz, q⟩ := h
    obtain ⟨ms, em, lm⟩ := cutV_ints ns
    show tDisp _ _ _ _
    intro p hp
    have e0 : Ex H (upd H p (.dK [])) := Ex.new hp
    have h0 : upd H p (.dK []) p = some (.dK []) := upd_same
    generalize upd H p (.dK []) = H1 at e0 h0
    refine ev_c (H := H1) H1 (Ex.refl _) _ fun H2 e2 => ?_
    have hm : mapF (fun _ => true) (fun v => v) (ms.map V.int) = ms.map V.int := by
      unfold mapF
      rw [List.filter_eq_self.mpr (fun _ _ => rfl), List.map_id']
    have hL : EvL (tLc (iList K (tSl (rSlL K) (tVar 0) tNoPart (tPart (tC (V.int 63))))) (gName 1) tYes (tCB (fun xs H Q => (∃ i, xs = [V.int i] ∧ Q (V.int i) H) ∨ ∃ k, xs = [V.bl k] ∧ Q (V.int (if k = true then 1 else 0)) H) (tCons (tVar 1) tNil)) (List.map (fun x => x.snd) [(("cell" : Str), 1)])) (L2.start ["script", "cell"] [.ref a]) H2 (ms.map V.int) := by
      rw [← hm]
      refine el_lcO (fun _ => true) (fun v => v) (src_nl ?_) (by rw [List.length_map]; exact Nat.lt_of_le_of_lt lm (by decide)) (fun _ => rfl) (fun x H3 _ _ => fun H4 _ Q q => q H4 (Ex.refl _)) fun x H3 hx _ e3 => ?_
      · rw [← em]
        exact el_sl (ev_var rfl) eo_none (eo_some ev_c) (ex_l (e0.trans e2) hs)
      · obtain ⟨i, _, rfl⟩ := List.mem_map.mp hx
        exact ev_int1 (ev_var rfl)
    refine hL H2 (Ex.refl _) _ fun c H3 hc e3 h3 => ?_
    refine ⟨e3 _ _ (e2 _ _ h0), [(Sum.inr "cells", .ref c), (Sum.inr "at", .int 0), (Sum.inr "left", .int 0)], rfl, (by show 3 ≤ 15; decide), ?_⟩
    rw [pen_new]
    have hcp : c ≠ p := fun z => by rw [z, e2 _ _ h0] at hc; cases hc
    have e4 : Ex H (upd H3 p (.dK (penD c 0 0))) := Ex.mut (e0.trans (e2.trans e3)) hp
    exact q p c _ hp e4 ⟨0, 0, ms, upd_same, (upd_ne hcp).trans h3, lm, by decide, by decide, by decide⟩
theorem ok_draw (F : FnP K "_law_e_draw" s__law_e_draw f fd) (B : Blt mg) : FnOk P w K mg base CXn 1 f fd ["pen", "many"] (spDraw K) := by
  have nd := sc_draw.nd
  refine F.ok sc_draw (fun vs H Q E h => ?_) (fun cdv A outer s H vs Q E hr h => ⟨_, PSs.nox
    (pss_cons (ps_if (pt_cmpR op_gt (pe_dget (hu_of hr) (pv 0) pe_str (fun _ _ => rfl)) pe_int (nomark _)) (pss_cons (ps_set (i := 2) nd rfl (Or.inl rfl) (pe_callTy call_int1 (by rfl) B.int (by decide +kernel) (pa_cons (pe_dget (hu_of hr) (pv 0) pe_str (fun _ _ => rfl)) pa_nil)))
      (pss_cons (ps_dput (hu_of hr) (pv 0) pe_str (pe_op op_fdiv (pv 2) (pv 1)) rfl)
      (pss_one (ps_ret (pe_op op_mod (pe_callTy call_int1 (by rfl) B.int (by decide +kernel) (pa_cons (pv 2) pa_nil)) (pv 1)))))) pss_nil)
      (pss_cons (ps_par (i := 3) (j := 4) rfl nd rfl rfl (by decide) rfl rfl (pa_cons (pe_callTy call_int1 (by rfl) B.int (by decide +kernel) (pa_cons (pe_dget (hu_of hr) (pv 0) pe_str (fun _ _ => rfl)) pa_nil)) (pa_cons (pe_dget (hu_of hr) (pv 0) pe_str (fun _ _ => rfl)) pa_nil)) (by rfl))
      (pss_cons (ps_dput (hu_of hr) (pv 0) pe_str (pe_op op_add (pv 3) pe_int) rfl)
      (pss_cons (ps_set (i := 5) nd rfl (Or.inl rfl) (pe_ifExp (pt_cmpR (op_neDK (K := K) rfl hr.units) (pv 4) (pe_lst pa_nil) (nomark _)) (pe_callTy call_int1 (by rfl) B.int (by decide +kernel) (pa_cons (pe_ix (ix_listK (K := K) rfl) (pv 4) (pe_op op_mod (pv 3) (pe_callB (call_lenK (K := K) rfl) (by rfl) B.len (show bootBuiltins "len" = some (.builtin "len") by decide +kernel) (pa_cons (pv 4) pa_nil))) (fun _ _ => rfl)) pa_nil)) (pe_op op_add (pe_op op_mul pe_int (pv 3)) pe_int)))
      (pss_cons (ps_if (PW.pt (pw_and (pt_cmpR op_lt (pv 3) (pe_callB (call_lenK (K := K) rfl) (by rfl) B.len (show bootBuiltins "len" = some (.builtin "len") by decide +kernel) (pa_cons (pv 4) pa_nil)) (nomark _)) (pw_and1 (pt_cmpR op_ge (pe_callB call_abs (by rfl) B.abs (by decide +kernel) (pa_cons (pv 5) pa_nil)) (pe_op op_pow pe_int pe_int) (nomark _))))) (pss_cons (ps_set (i := 2) nd rfl (Or.inl rfl) (pe_op op_add (pe_op op_mul pe_int (pe_op op_sub (pe_callB call_abs (by rfl) B.abs (by decide +kernel) (pa_cons (pv 5) pa_nil)) (pe_op op_pow pe_int pe_int))) (pe_callTy call_int1 (by rfl) B.int (by decide +kernel) (pa_cons (pe_cmpR op_lt (pv 5) pe_int (nomark _)) pa_nil))))
      (pss_cons (ps_dput (hu_of hr) (pv 0) pe_str (pe_op op_fdiv (pe_callTy call_int1 (by rfl) B.int (by decide +kernel) (pa_cons (pv 2) pa_nil)) (pv 1)) rfl)
      (pss_one (ps_ret (pe_op op_mod (pe_callTy call_int1 (by rfl) B.int (by decide +kernel) (pa_cons (pv 2) pa_nil)) (pv 1)))))) pss_nil)
      (pss_cons (ps_set (i := 6) nd rfl (Or.inl rfl) (pe_op op_mod (pe_callTy call_int1 (by rfl) B.int (by decide +kernel) (pa_cons (pe_op op_pow (pe_op op_add (pe_op op_add (pe_op op_mod (pv 5) pe_int) (pe_op op_mul pe_int (pv 3))) pe_int) pe_int) pa_nil)) pe_int))
      (pss_cons (ps_set (i := 6) nd rfl (Or.inl rfl) (pe_op op_mod (pe_callTy call_int1 (by rfl) B.int (by decide +kernel) (pa_cons (pe_op op_pow (pe_op op_add (pe_op op_add (pe_op op_mul (pv 6) (pe_op op_add (pe_op op_mul pe_int (pv 3)) pe_int)) (pe_op op_mul (pe_op op_mul pe_int (pv 3)) (pv 3))) pe_int) pe_int) pa_nil)) pe_int))
      (pss_one (ps_ret (pe_op op_mod (pe_callTy call_int1 (by rfl) B.int (by decide +kernel) (pa_cons (pe_op op_fdiv (pv 6) pe_int) pa_nil)) (pv 1))))))))))), ?_⟩)
  · obtain ⟨_, _, _, _, rfl, _⟩ := h; rfl
  · obtain ⟨p, c, m, n, rfl, ⟨a, l, ns, h1, h2', h3, h4, h5, h6⟩, hn, hm0, hm1, q⟩ := h
    have h2 : SqL K H c (ns.map V.int) := sq_of h2'
    have hdk : (penD c a l).length ≤ 1000 := by show 3 ≤ 1000; decide
    have hcp : ∀ H' x, Gp p H H' → SqL K (upd H' p (.dK x)) c (ns.map V.int) := fun H' x e => gr_l ((e.dct h1).1) h2
    have hfin : ∀ (x : Int) (H' : Hp) (a' l' : Int), Gp p H H' → H' p = some (.dK (penD c a' l')) → 0 ≤ a' → a' ≤ n + 1 → 0 ≤ l' → Q (.int (x % m)) H' := fun x H' a' l' e hp i1 i2 i3 =>
      q _ _ (Int.emod_nonneg _ (by omega)) (Int.emod_lt_of_pos _ hm0) e ⟨a', l', ns, hp, e.1 _ _ h2' (fun _ z => by cases z) (fun _ z => by cases z), h3, i1, by omega, i3⟩
    refine q_when (et_test (ev_op (ev_dget (ev_var rfl) ev_c h1 pg_left) ev_c rv_I0)) (fun hb H1 e1 => ?_) (fun hb H1 e1 => ?_)
    · refine q_asg (ev_int1 (ev_dget (ev_var rfl) ev_c (e1 _ _ h1) pg_left)) fun H2 e2 => ?_
      have hp2 := e2 _ _ (e1 _ _ h1)
      refine q_dput (k := Sum.inr "left") (ev_op (ev_var rfl) (ev_var rfl) (rv_I ⟨hm0, hm1⟩)) (ev_var rfl) ev_c hp2 hdk fun H3 e3 => ?_
      rw [pp_left]
      refine s_ret (ev_op (ev_int1 (ev_var rfl)) (ev_var rfl) (rv_I hm0)) fun H4 e4 => ?_
      exact hfin _ _ a (l / m) (((Gp.ex (e1.trans (e2.trans e3))).dct h1).trans (Gp.ex e4)) (e4 _ _ upd_same) h4 (by omega) (Int.ediv_nonneg h6 (by omega))
    · refine q_par (ea_cons (ev_int1 (ev_dget (ev_var rfl) ev_c (e1 _ _ h1) pg_at)) (ea_cons (ev_dget (ev_var rfl) ev_c (e1 _ _ h1) pg_cells) ea_nil)) fun H2 e2 => ?_
      have hp2 := e2 _ _ (e1 _ _ h1)
      refine q_dput (k := Sum.inr "at") (ev_op (ev_var rfl) ev_c rv_I0) (ev_var rfl) ev_c hp2 hdk fun H3 e3 => ?_
      rw [pp_at]
      have g4 : Gp p H (upd H3 p (.dK (penD c (a + 1) l))) := (Gp.ex (e1.trans (e2.trans e3))).dct h1
      have p4 : upd H3 p (.dK (penD c (a + 1) l)) p = some (.dK (penD c (a + 1) l)) := upd_same
      generalize upd H3 p (.dK (penD c (a + 1) l)) = H4 at g4 p4
      have s4 := gr_l g4.1 h2
      have hA : a ≤ 1048576 := by omega
      refine q_asgE (fun v => ∃ i : Int, v = V.int i) ?_ fun v hv H5 e5 => ?_
      · cases hne : ns.isEmpty with
        | true => exact ⟨_, ⟨_, rfl⟩, ev_if (et_test (ev_neNil (ev_var rfl) s4)) (fun hb => by rw [hne] at hb; cases hb) fun _ => ev_op (ev_op ev_c (ev_var rfl) (rv_I (.inl (by omega)))) ev_c rv_I0⟩
        | false =>
          obtain ⟨hp, x, hx⟩ := at_mod (a := a) hne
          exact ⟨_, ⟨_, rfl⟩, ev_if (et_test (ev_neNil (ev_var rfl) s4)) (fun _ => ev_int1 (ev_op (ev_var rfl) (ev_op (ev_var rfl) (ev_lenL (ev_var rfl) s4) (rv_I hp)) (rv_ixL s4 hx))) fun hb => by rw [hne] at hb; cases hb⟩
      obtain ⟨cell, rfl⟩ := hv
      have s5 := ex_l e5 s4
      refine q_when (et_and (et_test (ev_op (ev_var rfl) (ev_lenL (ev_var rfl) s5) rv_I0)) fun _ => et_test (ev_op (ev_abs (ev_var rfl)) (ev_op ev_c ev_c (rv_I ⟨by decide, by decide, by decide⟩)) rv_I0)) (fun hb H6 e6 => ?_) (fun hb H6 e6 => ?_)
      · refine q_asg (ev_op (ev_op ev_c (ev_op (ev_abs (ev_var rfl)) (ev_op ev_c ev_c (rv_I ⟨by decide, by decide, by decide⟩)) rv_I0) (rv_I (.inl (by omega)))) (ev_intB (ev_op (ev_var rfl) ev_c rv_I0)) rv_I0) fun H7 e7 => ?_
        have p7 := e7 _ _ (e6 _ _ (e5 _ _ p4))
        refine q_dput (k := Sum.inr "left") (ev_op (ev_int1 (ev_var rfl)) (ev_var rfl) (rv_I ⟨hm0, hm1⟩)) (ev_var rfl) ev_c p7 hdk fun H8 e8 => ?_
        rw [pp_left]
        refine s_ret (ev_op (ev_int1 (ev_var rfl)) (ev_var rfl) (rv_I hm0)) fun H9 e9 => ?_
        have hb' := (Bool.and_eq_true_iff.mp hb).2
        have hb2 := of_decide_eq_true hb'
        have hb0 : (0 : Int) ≤ (if decide (cell < 0) = true then 1 else 0) := by split <;> decide
        refine hfin _ _ (a + 1) _ (((g4.trans (Gp.ex (e5.trans (e6.trans (e7.trans e8))))).trans (Gp.dct (Gp.refl p _) (e8 _ _ p7))).trans (Gp.ex e9)) (e9 _ _ upd_same) (by omega) (by omega) (Int.ediv_nonneg (by omega) (by omega))
      · have p6 := e6 _ _ (e5 _ _ p4)
        have g6 := g4.trans (Gp.ex (e5.trans e6))
        refine q_asgE (fun v => ∃ i : Int, v = V.int i ∧ 0 ≤ i ∧ i < 2147483648) ⟨_, ⟨_, rfl, ?_, ?_⟩, ev_op (ev_int1 (ev_op (ev_op (ev_op (ev_op (ev_var rfl) ev_c (rv_I (by decide))) (ev_op ev_c (ev_var rfl) (rv_I (.inl (by omega)))) rv_I0) ev_c rv_I0) ev_c (rv_I ⟨by decide, by decide, ?_⟩))) ev_c (rv_I (by decide))⟩ fun v hv H7 e7 => ?_
        · exact Int.emod_nonneg _ (by decide)
        · exact Int.lt_trans (Int.emod_lt_of_pos _ (by decide)) (by decide)
        · omega
        obtain ⟨st, rfl, t1, t2⟩ := hv
        refine q_asgE (fun v => ∃ i : Int, v = V.int i ∧ 0 ≤ i ∧ i < 2147483648) ⟨_, ⟨_, rfl, ?_, ?_⟩, ev_op (ev_int1 (ev_op (ev_op (ev_op (ev_op (ev_var rfl) (ev_op (ev_op ev_c (ev_var rfl) (rv_I (.inl (by omega)))) ev_c rv_I0) (rv_I (.inl (by omega)))) (ev_op (ev_op ev_c (ev_var rfl) (rv_I (.inl (by omega)))) (ev_var rfl) (rv_I (.inr (by omega)))) rv_I0) ev_c rv_I0) ev_c (rv_I ⟨by decide, by decide, ?_⟩))) ev_c (rv_I (by decide))⟩ fun v hv H8 e8 => ?_
        · exact Int.emod_nonneg _ (by decide)
        · exact Int.lt_trans (Int.emod_lt_of_pos _ (by decide)) (by decide)
        · exact bnd5 t1 t2 h4 hA (by decide) (by decide) (by decide) (by decide) (by decide) (by decide)
        obtain ⟨su, rfl, u1, u2⟩ := hv
        refine s_ret (ev_op (ev_int1 (ev_op (ev_var rfl) ev_c (rv_I ⟨by decide, by decide⟩))) (ev_var rfl) (rv_I hm0)) fun H9 e9 => ?_
        exact hfin _ _ (a + 1) l (g6.trans (Gp.ex (e7.trans (e8.trans e9)))) (e9 _ _ (e8 _ _ (e7 _ _ p6))) (by omega) (by omega) h6
theorem ok_pick (F : FnP K "_law_e_pick" s__law_e_pick f fd) (B : Blt mg) (G__law_e_draw : Cal P w K mg base CXn 1 "_law_e_draw" ["pen", "many"] (spDraw K)) : FnOk P w K mg base CXn 2 f fd ["pen", "some"] (spPick K) := by
  have nd := sc_pick.nd
  refine F.ok sc_pick (fun vs H Q E h => ?_) (fun cdv A outer s H vs Q E hr h => ⟨_, PSs.nox
    (pss_one (ps_ret (pe_ix (ix_listK (K := K) rfl) (pv 1) (pe_cal G__law_e_draw (hr.mono (by decide)) rfl pass0 (pa_cons (pv 0) (pa_cons (pe_callB (call_lenK (K := K) rfl) (by rfl) B.len (show bootBuiltins "len" = some (.builtin "len") by decide +kernel) (pa_cons (pv 1) pa_nil)) pa_nil))) (fun _ _ => rfl)))), ?_⟩)
  · obtain ⟨_, _, _, _, _, rfl, _⟩ := h; rfl
  · obtain ⟨p, pc, q, xs, n, rfl, hp, hn, hs, h0, h1, hq⟩ := h
    refine ⟨_, rfl, _, rfl, ⟨_, rfl, ⟨_, xs.length, rfl, .inl ⟨xs, hs, rfl⟩, ?_⟩⟩⟩
    refine ⟨p, pc, (xs.length : Int), n, rfl, hp, hn, by omega, by omega, fun r H' r0 r1 g hp' => ?_⟩
    obtain ⟨j, hj⟩ : ∃ j : Nat, r = (j : Int) := ⟨_, (Int.toNat_of_nonneg r0).symm⟩
    subst hj
    have hjl : j < xs.length := by omega
    exact ⟨q, xs, j, xs[j], rfl, rfl, gr_l g.1 hs, atI_nat (List.getElem?_eq_getElem hjl), hq _ _ (List.getElem_mem hjl) g hp'⟩
end
end K88
/-! ## K88Heard -/
set_option Elab.async false
set_option linter.all false
set_option maxRecDepth 100000
set_option maxHeartbeats 4000000
namespace K88
open PySem PySem.Spec PyProof.Rows L2 He Wh LamX
abbrev sHeard : Stmt := top 33
abbrev nHeard : List Str := ["call", "found", "caught", "error", "words", "are"]
theorem scHeard : FnScope nHeard ["call"] (defScope sHeard) := ⟨rfl, rfl, rfl, by decide +kernel, rfl, by decide +kernel, by decide +kernel⟩
section
variable {X : Cx} {ks : List EK} {g : Addr} {cdg : Value} {q : Str}
theorem heard_gives (F : HeardK X.K X.mg ks) : GivesTo X nHeard "_law_e_heard" (defScope sHeard) g cdg (defBody sHeard) "call" q (THeard X.K ks) := by
  intro f c' s H Q tl act hc h
  have nd := scHeard.nd
  refine ⟨_, pss_cons (ps_asg (pe_tup (pa_cons pe_non (pa_cons pe_non pa_nil))) (pg_tup rfl (pgs_cons (pg_name (i := 1) nd rfl (Or.inl rfl)) (pgs_cons (pg_name (i := 2) nd rfl (Or.inl rfl)) pgs_nil))))
    (pss_cons (ps_try_keep (i := 3) (c := .ref (ga X.K "SendError")) (tb := fun W D σ H => ∃ Ech : XK, (∀ cls d σ' H', Ech cls d H' → W cls d σ' H') ∧ σ[0]? = some (some (.ref f)) ∧ H c' = some (CodeO c' q) ∧ tl Ech H fun v H' => D.nx (σ.set 1 (some v)) H') rfl rfl rfl nd rfl rfl ⟨rfl, by decide, .inl F.s⟩
      (fun W pn xe tk _ => ?_) (fun a pn => pss_one (ps_set (i := 2) nd rfl (Or.inl rfl) (pv 3))))
    (pss_cons (ps_if (pt_cmpR op_isN (pv 2) pe_non (nomark _)) (pss_one (ps_ret (pe_lst (pa_cons (pv 1) pa_nil)))) pss_nil)
    (pss_cons (ps_if (pt_val (pe_isk F .text rfl rfl rfl (pv 2) rfl rfl)) (pss_one (ps_ret (pe_tup (pa_cons pe_str (pa_cons (pe_errf (pv 2)) (pa_cons (pe_errf (pv 2)) pa_nil)))))) pss_nil)
    (pss_cons (ps_if (pt_val (pe_isk F .many rfl rfl rfl (pv 2) rfl rfl)) (pss_one (ps_ret (pe_tup (pa_cons pe_str (pa_cons (pe_errf (pv 2)) (pa_cons (pe_errf (pv 2)) pa_nil)))))) pss_nil)
    (pss_cons (ps_if (pt_val (pe_isk F .word rfl rfl rfl (pv 2) rfl rfl)) (pss_one (ps_ret (pe_tup (pa_cons pe_str (pa_cons (pe_errf (pv 2)) pa_nil))))) pss_nil)
    (pss_cons (ps_if (pt_val (pe_isk F .name rfl rfl rfl (pv 2) rfl rfl)) (pss_one (ps_ret (pe_tup (pa_cons pe_str (pa_cons (pe_errf (pv 2)) pa_nil))))) pss_nil)
    (pss_cons (ps_if (pt_val (pe_isk F .nothing rfl rfl rfl (pv 2) rfl rfl)) (pss_one (ps_ret (pe_tup (pa_cons pe_str (pa_cons (pe_errf (pv 2)) pa_nil))))) pss_nil)
    (pss_cons (ps_set (i := 4) nd rfl (Or.inl rfl) (pe_lst (pa_cons pe_str (pa_cons pe_str (pa_cons pe_str (pa_cons pe_str (pa_cons pe_str (pa_cons pe_str (pa_cons pe_str (pa_cons pe_str (pa_cons pe_str pa_nil)))))))))))
    (pss_cons (ps_set (i := 5) nd rfl (Or.inl rfl) (pe_lst (pa_cons (pe_isk F .value rfl rfl rfl (pv 2) rfl rfl) (pa_cons (pe_isk F .line rfl rfl rfl (pv 2) rfl rfl) (pa_cons (pe_isk F .number rfl rfl rfl (pv 2) rfl rfl) (pa_cons (pe_isk F .rows rfl rfl rfl (pv 2) rfl rfl) (pa_cons (pe_isk F .relation rfl rfl rfl (pv 2) rfl rfl) pa_nil)))))))
    (pss_cons (ps_set (i := 5) nd rfl (Or.inl rfl) (pe_op op_cat (pv 5) (pe_lst (pa_cons (pe_isk F .sender rfl rfl rfl (pv 2) rfl rfl) (pa_cons (pe_isk F .hearer rfl rfl rfl (pv 2) rfl rfl) (pa_cons (pe_isk F .paper rfl rfl rfl (pv 2) rfl rfl) (pa_cons (pe_isk F .misfit rfl rfl rfl (pv 2) rfl rfl) pa_nil)))))))
    (pss_one (ps_ret (pe_ifExp (pt_cmpR op_in_seq pe_bl (pv 5) (by rfl)) (pe_tup (pa_cons (pe_ix ix_list (pv 4) (pe_bm PySem.F.plainAttrs_list PySem.F.slot_list_index PySem.F.type_list_index mt_index (pv 5) (pa_cons pe_bl pa_nil)) (fun _ _ => rfl)) (pa_cons (pe_errf (pv 2)) pa_nil))) (pe_tup (pa_cons pe_str pa_nil))))))))))))))), ?_⟩
  · refine ⟨fun pins s' σ H' D I h' => ?_⟩
    obtain ⟨Ech, hW, h1, h2, h3⟩ := h'
    exact (pss_one (ps_set (i := 1) nd rfl (Or.inl rfl) (act W pn xe Ech _ _ tk hW))).run pins s' σ H' D I ⟨h1, h2, h3⟩
  · refine ⟨by show 2 ≤ sizeLine; decide, fun p hp => ?_⟩
    refine ⟨p, _, rfl, SqT.of upd_same, rfl, _, _, rfl, _, _, rfl, rfl, ?_⟩
    have e1 : Evl.Ex H (upd H p (.tup [.non, .non])) := Evl.Ex.new hp
    refine ⟨fun cls d H' => ∃ (k : EK) (dd : Addr) (fs : List (Str × V)) (vs : List V), k ∈ ks ∧ cls = .ref (EC X.K k) ∧ d = some dd ∧ H' dd = some (.xd fs) ∧ k.told fs = some vs ∧ ∀ p H'', Evl.Ex H' H'' → H' p = none → H'' p = some (.tup vs) → Q (.ref p) H'', fun cls d σ' H' hE => ?_, rfl, e1 _ _ hc, ?_⟩
    · obtain ⟨k, dd, fs, vs, hk, rfl, rfl, hdd, ht, hQ⟩ := hE
      refine ⟨F.exm k hk, _, _, rfl, rfl, fun hl a ha => ?_⟩
      obtain ⟨a0, a1, a2, a3, a4, a5, rfl⟩ : ∃ a0 a1 a2 a3 a4 a5, σ' = [a0, a1, a2, a3, a4, a5] := by
        match σ', hl with
        | [a0, a1, a2, a3, a4, a5], _ => exact ⟨_, _, _, _, _, _, rfl⟩
      refine ⟨_, rfl, fun hna => ?_⟩
      have hE1 : upd H' a (ErrO a (EC X.K k) dd) a = some (ErrO a (EC X.K k) dd) := upd_same
      have hE2 : upd H' a (ErrO a (EC X.K k) dd) dd = some (.xd fs) := by
        rw [upd_ne (ne_of_none hdd hna)]
        exact hdd
      have ex1 : Evl.Ex H' (upd H' a (ErrO a (EC X.K k) dd)) := Evl.Ex.new hna
      generalize upd H' a (ErrO a (EC X.K k) dd) = H2 at hE1 hE2 ex1
      dsimp only [tSeq, tIfS, tB, tCB, tCons, tC, tNil, tVar, tRet, tTup, tLst, tAsg, gName, tNext, tErrF, tOp, tTest, tIf, List.set, tBM]
      have T := F.exc k hk
      have isk : ∀ (j : EK) (H3 : Hp) (Q' : VK), Evl.Ex H2 H3 → Q' (.bl (decide (k = j))) H3 → rIsErr X.K [.ref a, .ref (EC X.K j)] H3 Q' := fun j H3 Q' e q => ⟨a, _, dd, fs, _, _, _, rfl, e _ _ hE1, e _ _ hE2, T, ClsV.own _, F.kit k hk j, q⟩
      have isF : ∀ (j : EK) (Q' : Bool → Hp → Prop), decide (k = j) = false → Q' false H2 → rIsErr X.K [.ref a, .ref (EC X.K j)] H2 fun x H1 => ∃ c, x = .bl c ∧ Q' c H1 := fun j Q' e q => isk j _ _ (Evl.Ex.refl _) ⟨_, rfl, by rw [e]; exact q⟩
      have isT : ∀ (j : EK) (Q' : Bool → Hp → Prop), decide (k = j) = true → Q' true H2 → rIsErr X.K [.ref a, .ref (EC X.K j)] H2 fun x H1 => ∃ c, x = .bl c ∧ Q' c H1 := fun j Q' e q => isk j _ _ (Evl.Ex.refl _) ⟨_, rfl, by rw [e]; exact q⟩
      have fin1 : ∀ (f : Str) (H3 : Hp) (t : Str), k.fields = [f] → k.tag = t → Evl.Ex H2 H3 → ∃ v, fs.lookup f = some v ∧ ∀ p, H3 p = none → Q (.ref p) (upd H3 p (.tup [.str t, v])) := fun f H3 t e et e3 => by
        obtain ⟨v, l, ev⟩ := told1 e ht
        refine ⟨v, l, fun p hp => hQ p _ ((ex1.trans e3).trans (Evl.Ex.new hp)) (Evl.fresh_back (ex1.trans e3) hp) ?_⟩
        rw [upd_same, ev, et]
      have fin2 : ∀ (f g : Str) (t : Str), k.fields = [f, g] → k.tag = t → ∃ v u, fs.lookup f = some v ∧ fs.lookup g = some u ∧ ∀ p, H2 p = none → Q (.ref p) (upd H2 p (.tup [.str t, v, u])) := fun f g t e et => by
        obtain ⟨v, u, l, l2, ev⟩ := told2 e ht
        refine ⟨v, u, l, l2, fun p hp => hQ p _ (ex1.trans (Evl.Ex.new hp)) (Evl.fresh_back ex1 hp) ?_⟩
        rw [upd_same, ev, et]
      refine ⟨_, rfl, rfl, _, rfl, iteF ?_⟩
      refine ⟨_, rfl, ?_⟩
      by_cases k1 : k = .text
      · refine isT .text _ (decide_eq_true k1) ?_
        refine iteT ?_
        obtain ⟨v, u, l1, l2, fin⟩ := fin2 "line" "word" "text" (by rw [k1]; rfl) (by rw [k1]; rfl)
        refine ⟨_, rfl, a, _, dd, fs, v, rfl, hE1, hE2, T, F.no k hk "line" (by rw [k1]; decide), l1, ?_⟩
        refine ⟨_, rfl, a, _, dd, fs, u, rfl, hE1, hE2, T, F.no k hk "word" (by rw [k1]; decide), l2, ?_⟩
        exact ⟨by show 3 ≤ sizeLine; decide, fin⟩
      refine isF .text _ (decide_eq_false k1) ?_
      refine iteF ?_
      refine ⟨_, rfl, ?_⟩
      by_cases k2 : k = .many
      · refine isT .many _ (decide_eq_true k2) ?_
        refine iteT ?_
        obtain ⟨v, u, l1, l2, fin⟩ := fin2 "what" "most" "many" (by rw [k2]; rfl) (by rw [k2]; rfl)
        refine ⟨_, rfl, a, _, dd, fs, v, rfl, hE1, hE2, T, F.no k hk "what" (by rw [k2]; decide), l1, ?_⟩
        refine ⟨_, rfl, a, _, dd, fs, u, rfl, hE1, hE2, T, F.no k hk "most" (by rw [k2]; decide), l2, ?_⟩
        exact ⟨by show 3 ≤ sizeLine; decide, fin⟩
      refine isF .many _ (decide_eq_false k2) ?_
      refine iteF ?_
      refine ⟨_, rfl, ?_⟩
      by_cases k3 : k = .word
      · refine isT .word _ (decide_eq_true k3) ?_
        refine iteT ?_
        obtain ⟨v, l1, fin⟩ := fin1 "word" H2 "word" (by rw [k3]; rfl) (by rw [k3]; rfl) (Evl.Ex.refl _)
        refine ⟨_, rfl, a, _, dd, fs, v, rfl, hE1, hE2, T, F.no k hk "word" (by rw [k3]; decide), l1, ?_⟩
        exact ⟨by show 2 ≤ sizeLine; decide, fin⟩
      refine isF .word _ (decide_eq_false k3) ?_
      refine iteF ?_
      refine ⟨_, rfl, ?_⟩
      by_cases k4 : k = .name
      · refine isT .name _ (decide_eq_true k4) ?_
        refine iteT ?_
        obtain ⟨v, l1, fin⟩ := fin1 "name" H2 "name" (by rw [k4]; rfl) (by rw [k4]; rfl) (Evl.Ex.refl _)
        refine ⟨_, rfl, a, _, dd, fs, v, rfl, hE1, hE2, T, F.no k hk "name" (by rw [k4]; decide), l1, ?_⟩
        exact ⟨by show 2 ≤ sizeLine; decide, fin⟩
      refine isF .name _ (decide_eq_false k4) ?_
      refine iteF ?_
      refine ⟨_, rfl, ?_⟩
      by_cases k5 : k = .nothing
      · refine isT .nothing _ (decide_eq_true k5) ?_
        refine iteT ?_
        obtain ⟨v, l1, fin⟩ := fin1 "what" H2 "nothing" (by rw [k5]; rfl) (by rw [k5]; rfl) (Evl.Ex.refl _)
        refine ⟨_, rfl, a, _, dd, fs, v, rfl, hE1, hE2, T, F.no k hk "what" (by rw [k5]; decide), l1, ?_⟩
        exact ⟨by show 2 ≤ sizeLine; decide, fin⟩
      refine isF .nothing _ (decide_eq_false k5) ?_
      refine iteF ?_
      -- words
      refine ⟨by show 9 ≤ sizeLine; decide, fun pw hw => ?_⟩
      have xw : Evl.Ex H2 _ := Evl.Ex.new (o := .lst [.str "value", .str "line", .str "number", .str "rows", .str "relation", .str "sender", .str "hearer", .str "paper", .str "misfit"]) hw
      have ew : upd H2 pw (.lst [.str "value", .str "line", .str "number", .str "rows", .str "relation", .str "sender", .str "hearer", .str "paper", .str "misfit"]) pw = _ := upd_same
      generalize upd H2 pw (.lst [.str "value", .str "line", .str "number", .str "rows", .str "relation", .str "sender", .str "hearer", .str "paper", .str "misfit"]) = H3 at xw ew
      -- are
      refine ⟨_, rfl, isk .value _ _ xw ?_⟩
      refine ⟨_, rfl, isk .line _ _ xw ?_⟩
      refine ⟨_, rfl, isk .number _ _ xw ?_⟩
      refine ⟨_, rfl, isk .rows _ _ xw ?_⟩
      refine ⟨_, rfl, isk .relation _ _ xw ?_⟩
      refine ⟨by show 5 ≤ sizeLine; decide, fun pa hpa => ?_⟩
      have xa := xw.trans (Evl.Ex.new (o := .lst [.bl (decide (k = .value)), .bl (decide (k = .line)), .bl (decide (k = .number)), .bl (decide (k = .rows)), .bl (decide (k = .relation))]) hpa)
      have ewa : Evl.Ex H3 _ := Evl.Ex.new (o := .lst [.bl (decide (k = .value)), .bl (decide (k = .line)), .bl (decide (k = .number)), .bl (decide (k = .rows)), .bl (decide (k = .relation))]) hpa
      refine ⟨_, rfl, ?_⟩
      refine ⟨_, rfl, isk .sender _ _ xa ?_⟩
      refine ⟨_, rfl, isk .hearer _ _ xa ?_⟩
      refine ⟨_, rfl, isk .paper _ _ xa ?_⟩
      refine ⟨_, rfl, isk .misfit _ _ xa ?_⟩
      refine ⟨by show 4 ≤ sizeLine; decide, fun pb hpb => ?_⟩
      refine ⟨pa, pb, _, _, rfl, rfl, (by rw [upd_ne (ne_of_none upd_same hpb), upd_same]), upd_same, by show 9 ≤ sizeLine; decide, fun pc hpc => ?_⟩
      have xc := (xa.trans (Evl.Ex.new (o := .lst [.bl (decide (k = .sender)), .bl (decide (k = .hearer)), .bl (decide (k = .paper)), .bl (decide (k = .misfit))]) hpb)).trans (Evl.Ex.new (o := .lst ([.bl (decide (k = .value)), .bl (decide (k = .line)), .bl (decide (k = .number)), .bl (decide (k = .rows)), .bl (decide (k = .relation))] ++ [.bl (decide (k = .sender)), .bl (decide (k = .hearer)), .bl (decide (k = .paper)), .bl (decide (k = .misfit))])) hpc)
      have wc := ((ewa.trans (Evl.Ex.new (o := .lst [.bl (decide (k = .sender)), .bl (decide (k = .hearer)), .bl (decide (k = .paper)), .bl (decide (k = .misfit))]) hpb)).trans (Evl.Ex.new (o := .lst ([.bl (decide (k = .value)), .bl (decide (k = .line)), .bl (decide (k = .number)), .bl (decide (k = .rows)), .bl (decide (k = .relation))] ++ [.bl (decide (k = .sender)), .bl (decide (k = .hearer)), .bl (decide (k = .paper)), .bl (decide (k = .misfit))])) hpc)) _ _ ew
      have cc : upd (upd (upd H3 pa (.lst [.bl (decide (k = .value)), .bl (decide (k = .line)), .bl (decide (k = .number)), .bl (decide (k = .rows)), .bl (decide (k = .relation))])) pb (.lst [.bl (decide (k = .sender)), .bl (decide (k = .hearer)), .bl (decide (k = .paper)), .bl (decide (k = .misfit))])) pc (.lst ([.bl (decide (k = .value)), .bl (decide (k = .line)), .bl (decide (k = .number)), .bl (decide (k = .rows)), .bl (decide (k = .relation))] ++ [.bl (decide (k = .sender)), .bl (decide (k = .hearer)), .bl (decide (k = .paper)), .bl (decide (k = .misfit))])) pc = _ := upd_same
      generalize upd (upd (upd H3 pa (.lst [.bl (decide (k = .value)), .bl (decide (k = .line)), .bl (decide (k = .number)), .bl (decide (k = .rows)), .bl (decide (k = .relation))])) pb (.lst [.bl (decide (k = .sender)), .bl (decide (k = .hearer)), .bl (decide (k = .paper)), .bl (decide (k = .misfit))])) pc (.lst ([.bl (decide (k = .value)), .bl (decide (k = .line)), .bl (decide (k = .number)), .bl (decide (k = .rows)), .bl (decide (k = .relation))] ++ [.bl (decide (k = .sender)), .bl (decide (k = .hearer)), .bl (decide (k = .paper)), .bl (decide (k = .misfit))])) = H4 at xc wc cc
      have key : ∃ (j : Nat) (t : Str), k.fields = [("part" : Str)] ∧ k.tag = t ∧ ([.str "value", .str "line", .str "number", .str "rows", .str "relation", .str "sender", .str "hearer", .str "paper", .str "misfit"] : List V)[j]? = some (.str t) ∧
          ([.bl (decide (k = .value)), .bl (decide (k = .line)), .bl (decide (k = .number)), .bl (decide (k = .rows)), .bl (decide (k = .relation))] ++ [.bl (decide (k = .sender)), .bl (decide (k = .hearer)), .bl (decide (k = .paper)), .bl (decide (k = .misfit))] : List V)[j]? = some (.bl true) ∧
          ∀ (m : Nat) (z' : V), m < j → ([.bl (decide (k = .value)), .bl (decide (k = .line)), .bl (decide (k = .number)), .bl (decide (k = .rows)), .bl (decide (k = .relation))] ++ [.bl (decide (k = .sender)), .bl (decide (k = .hearer)), .bl (decide (k = .paper)), .bl (decide (k = .misfit))] : List V)[m]? = some z' → eqV z' (.bl true) = false := by
        cases k with
        | text => exact absurd rfl k1
        | many => exact absurd rfl k2
        | word => exact absurd rfl k3
        | name => exact absurd rfl k4
        | nothing => exact absurd rfl k5
        | value => exact ⟨0, _, rfl, rfl, rfl, rfl, before_of (by decide)⟩
        | line => exact ⟨1, _, rfl, rfl, rfl, rfl, before_of (by decide)⟩
        | number => exact ⟨2, _, rfl, rfl, rfl, rfl, before_of (by decide)⟩
        | rows => exact ⟨3, _, rfl, rfl, rfl, rfl, before_of (by decide)⟩
        | relation => exact ⟨4, _, rfl, rfl, rfl, rfl, before_of (by decide)⟩
        | sender => exact ⟨5, _, rfl, rfl, rfl, rfl, before_of (by decide)⟩
        | hearer => exact ⟨6, _, rfl, rfl, rfl, rfl, before_of (by decide)⟩
        | paper => exact ⟨7, _, rfl, rfl, rfl, rfl, before_of (by decide)⟩
        | misfit => exact ⟨8, _, rfl, rfl, rfl, rfl, before_of (by decide)⟩
      obtain ⟨j, t, kf, kt, kw, kb, kn⟩ := key
      have hin : inV (.bl true) ([.bl (decide (k = .value)), .bl (decide (k = .line)), .bl (decide (k = .number)), .bl (decide (k = .rows)), .bl (decide (k = .relation))] ++ [.bl (decide (k = .sender)), .bl (decide (k = .hearer)), .bl (decide (k = .paper)), .bl (decide (k = .misfit))]) = true := List.any_eq_true.mpr ⟨_, List.mem_of_getElem? kb, rfl⟩
      refine ⟨_, rfl, pc, _, rfl, .inl (SqL.of cc), rfl, rfl, ?_⟩
      rw [if_neg Bool.false_ne_true, hin]
      refine ⟨_, rfl, iteT ?_⟩
      refine ⟨_, rfl, _, rfl, .inl ⟨rfl, _, SqL.of cc⟩, pc, _, _, j, _, rfl, rfl, SqL.of cc, rfl, rfl, kb, rfl, kn, ?_⟩
      refine ⟨pw, _, _, _, rfl, rfl, SqL.of wc, atI_nat kw, ?_⟩
      obtain ⟨v, l1, fin⟩ := fin1 "part" H4 t kf kt xc
      exact ⟨_, rfl, a, _, dd, fs, v, rfl, xc _ _ hE1, xc _ _ hE2, T, F.no k hk "part" (by rw [kf]; exact List.mem_cons_self), l1, by show 2 ≤ sizeLine; decide, fin⟩
    · refine h _ e1 _ fun v H' hv => ?_
      dsimp only [tSeq, tIfS, tB, tCB, tCons, tC, tNil, tVar, tRet, tTup, tLst, tAsg, gName, tNext, tErrF, tOp, tTest, tIf, List.set, tBM]
      refine ⟨_, rfl, rfl, _, rfl, iteT ?_⟩
      exact ⟨_, rfl, by show 1 ≤ sizeLine; decide, fun p hp => hv p _ (Evl.Ex.new hp) hp upd_same⟩
end
end K88
/-! ## K88Plain -/
set_option Elab.async false
set_option linter.all false
set_option maxRecDepth 100000
set_option maxHeartbeats 4000000
namespace K88
open PySem PySem.Spec PyProof.Rows L2 He Wh Evl LamX
/-! ### the plain law -/
def namesL : List Str := ["a", "z9", "letterxa", "letterxb", "x", "ab", "abc", "u", "line", "paper"]
theorem names_ok : ∀ s ∈ namesL, nmB s.cps.toList = true ∧ s.length ≤ 8 ∧ (s.cps.toList.all fun c => decide (c < 128)) = true ∧ (44 ∉ TL.tl s) := by decide +kernel
theorem names_sum : ∀ {rs : List Str}, (∀ s ∈ rs, s ∈ namesL) → (rs.map (·.length)).sum ≤ 8 * rs.length
  | [], _ => Nat.zero_le _
  | x :: r, h => by
    have h1 := names_sum fun s hs => h s (List.mem_cons_of_mem _ hs)
    have h2 := (names_ok x (h x (List.mem_cons_self ..))).2.1
    rw [List.map_cons, List.sum_cons, List.length_cons]
    omega
def textOf (rs : List Str) : Str := if 0 < rs.length then Txt.join "," rs else "-"
theorem comma_tl : TL.tl ("," : Str) = [44] := by decide +kernel
theorem dash_tl : TL.tl ("-" : Str) = [45] := by decide +kernel
theorem empty_tl : TL.tl ("" : Str) = [] := by decide +kernel
theorem join_split {rs : List Str} (hne : rs ≠ []) (h : ∀ s ∈ rs, s ∈ namesL) : Txt.split (Txt.join "," rs) "," = rs :=
  TL.split_join (s := 44) (S := []) comma_tl (by decide +kernel) hne fun p hp => (names_ok p (h p hp)).2.2.2
theorem text_ok {rs : List Str} (h : ∀ s ∈ rs, s ∈ namesL) (hl : rs.length < 100) : Ok (textOf rs) ∧ (textOf rs).length < 2000 := by
  unfold textOf
  split
  · refine ⟨fun c hc => ?_, ?_⟩
    · have hc' : c ∈ TL.tl (Txt.join "," rs) := hc
      rw [tl_joinT, comma_tl] at hc'
      rcases joinL_in hc' with z | ⟨p, hp, z⟩
      · rw [List.mem_singleton.mp z]; decide
      · obtain ⟨s, hs, rfl⟩ := List.mem_map.mp hp
        exact ok_of (names_ok s (h s hs)).2.2.1 c z
    · rw [TL.len_tl, tl_joinT, comma_tl]
      refine Nat.lt_of_le_of_lt (joinL_len (m := 8) fun p hp => ?_) ?_
      · obtain ⟨s, hs, rfl⟩ := List.mem_map.mp hp
        rw [← TL.len_tl]
        exact (names_ok s (h s hs)).2.1
      · rw [List.length_map]
        show rs.length * 9 < 2000
        omega
  · exact ⟨ok_of (by decide +kernel), by decide +kernel⟩
theorem text_pos {rs : List Str} (h : ∀ s ∈ rs, s ∈ namesL) : 1 ≤ (textOf rs).length := by
  unfold textOf
  cases rs with
  | nil => exact (by decide +kernel : 1 ≤ ("-" : Str).length)
  | cons x r =>
    rw [if_pos (show 0 < (x :: r).length from Nat.succ_pos _), TL.len_tl, tl_joinT, List.map_cons]
    refine Nat.le_trans ?_ (joinL_pos _)
    have := (names_ok x (h x (List.mem_cons_self ..))).1
    unfold nmB at this
    simp only [Bool.and_eq_true, decide_eq_true_eq] at this
    exact this.1.1.1
theorem strOf_map (rs : List Str) : (rs.map PyData.str).map strOf = rs := by
  rw [List.map_map]
  exact List.map_id _
theorem all_nm {rs : List Str} (h : ∀ s ∈ rs, s ∈ namesL) : (rs.map PyData.str).all isN = true := by
  rw [List.all_map]
  exact List.all_eq_true.mpr fun s hs => (names_ok s (h s hs)).1
theorem rowT_ok {rs : List Str} (h : ∀ s ∈ rs, s ∈ namesL) : rowT (rs.map PyData.str) = some (textOf rs) := by
  unfold rowT textOf
  rw [if_pos (all_nm h), strOf_map, List.length_map]
theorem dash_split : Txt.split "-" "," = [("-" : Str)] := by
  have := TL.split_join (y := ",") (s := 44) (S := []) comma_tl (by decide +kernel) (parts := [("-" : Str)]) (by simp) (fun p hp => by rw [List.mem_singleton.mp hp, dash_tl]; decide)
  have e : Txt.join "," [("-" : Str)] = "-" := by rw [TL.join_eq]; rfl
  rwa [e] at this
theorem readRow_ok {rs : List Str} (h : ∀ s ∈ rs, s ∈ namesL) : readRow (.str (textOf rs)) = some rs := by
  rw [readRow_str]
  unfold textOf
  by_cases hz : 0 < rs.length
  · rw [if_pos hz]
    have hne : rs ≠ [] := fun z => by rw [z] at hz; exact absurd hz (by decide)
    have hs := join_split hne h
    have hd : ¬ Txt.join "," rs = "-" := fun z => by
      rw [z, dash_split] at hs
      have := (names_ok "-" (h "-" (by rw [← hs]; exact List.mem_singleton.mpr rfl))).1
      exact absurd this (by decide +kernel)
    rw [if_neg hd, hs, if_pos]
    exact List.all_eq_true.mpr fun s hs => (names_ok s (h s hs)).1
  · rw [if_neg hz, if_pos rfl]
    cases rs with
    | nil => rfl
    | cons x r => exact absurd (Nat.succ_pos _) hz
/-! bits -/
def bitS (i : Int) : Str := Str.ofString (toString i)
def signsOf (bs : List Int) : Str := if 0 < bs.length then Txt.join "" (bs.map bitS) else "-"
theorem bit_tl {i : Int} (h : i = 0 ∨ i = 1) : TL.tl (bitS i) = [(i + 48).toNat] := by
  rcases h with rfl | rfl <;> decide +kernel
theorem join_bits {bs : List Int} (h : ∀ i ∈ bs, i = 0 ∨ i = 1) : TL.tl (Txt.join "" (bs.map bitS)) = bs.map fun i => (i + 48).toNat := by
  rw [tl_joinT, empty_tl, joinL_nil, List.map_map]
  induction bs with
  | nil => rfl
  | cons b bs ih =>
    rw [List.map_cons, List.map_cons, List.flatten_cons, ih fun i hi => h i (List.mem_cons_of_mem _ hi)]
    show TL.tl (bitS b) ++ _ = _
    rw [bit_tl (h b (List.mem_cons_self ..))]
    rfl
theorem bitsT_ok {bs : List Int} (h : ∀ i ∈ bs, i = 0 ∨ i = 1) : bitsT (bs.map PyData.int) = some (signsOf bs) := by
  unfold bitsT signsOf
  have e : (bs.map PyData.int).all isB = true := by
    rw [List.all_map]
    exact List.all_eq_true.mpr fun i hi => by rcases h i hi with rfl | rfl <;> rfl
  rw [if_pos e, List.length_map, List.map_map]
  rfl
theorem signs_in {bs : List Int} (h : ∀ i ∈ bs, i = 0 ∨ i = 1) : (0 < bs.length ∧ TL.tl (signsOf bs) = bs.map fun i => (i + 48).toNat) ∨ (bs = [] ∧ signsOf bs = "-") := by
  unfold signsOf
  by_cases hz : 0 < bs.length
  · rw [if_pos hz]
    exact .inl ⟨hz, join_bits h⟩
  · rw [if_neg hz]
    cases bs with
    | nil => exact .inr ⟨rfl, rfl⟩
    | cons x r => exact absurd (Nat.succ_pos _) hz
theorem signs_ok {bs : List Int} (h : ∀ i ∈ bs, i = 0 ∨ i = 1) (hl : bs.length < 100) : Ok (signsOf bs) ∧ (signsOf bs).length < 2000 ∧ 1 ≤ (signsOf bs).length := by
  rcases signs_in h with ⟨hz, e⟩ | ⟨rfl, e⟩
  · refine ⟨fun c hc => ?_, ?_, ?_⟩
    · have hc' : c ∈ TL.tl (signsOf bs) := hc
      rw [e] at hc'
      obtain ⟨i, hi, rfl⟩ := List.mem_map.mp hc'
      rcases h i hi with rfl | rfl <;> decide
    · rw [TL.len_tl, e, List.length_map]; omega
    · rw [TL.len_tl, e, List.length_map]; omega
  · rw [e]
    exact ⟨ok_of (by decide +kernel), by decide +kernel, by decide +kernel⟩
theorem readBits_ok {bs : List Int} (h : ∀ i ∈ bs, i = 0 ∨ i = 1) : readBits (.str (signsOf bs)) = some bs := by
  rw [readBits_str]
  rcases signs_in h with ⟨hz, e⟩ | ⟨rfl, e⟩
  · have e' : (signsOf bs).cps.toList = bs.map fun i => (i + 48).toNat := e
    have h1 : ¬ signsOf bs = "-" := fun z => by
      rw [z, dash_tl] at e
      cases bs with
      | nil => cases e
      | cons b r =>
        rw [List.map_cons] at e
        injection e with e1 e2
        rcases h b (List.mem_cons_self ..) with rfl | rfl <;> exact absurd e1 (by decide)
    have h2 : ¬ signsOf bs = "" := fun z => by
      rw [z, empty_tl] at e
      cases bs with
      | nil => exact absurd hz (by decide)
      | cons b r => cases e
    have h3 : (signsOf bs).cps.toList.all b01 = true := by
      rw [e', List.all_map]
      exact List.all_eq_true.mpr fun i hi => by rcases h i hi with rfl | rfl <;> decide +kernel
    rw [if_neg h1, if_neg h2, if_pos h3, e', List.map_map]
    have : bs.map ((fun (c : Nat) => (c : Int) - 48) ∘ fun i => (i + 48).toNat) = bs.map id := List.map_congr_left fun i hi => by
      show (((i + 48).toNat : Nat) : Int) - 48 = i
      rcases h i hi with rfl | rfl <;> rfl
    rw [this, List.map_id]
  · rw [e, if_pos rfl]
/-! bent ones -/
theorem readBits_none {s : Str} {c : Nat} (hl : 2 ≤ s.length) (hc : c ∈ TL.tl s) (hn : b01 c = false) : readBits (.str s) = none := by
  rw [readBits_str]
  have h1 : ¬ s = "-" := fun z => by rw [z] at hl; exact absurd hl (by decide +kernel)
  have h2 : ¬ s = "" := fun z => by rw [z] at hl; exact absurd hl (by decide +kernel)
  have h3 : ¬ s.cps.toList.all b01 = true := fun z => by rw [List.all_eq_true.mp z c hc] at hn; cases hn
  rw [if_neg h1, if_neg h2, if_neg h3]
def alnum : List Nat := ("abcdefghijklmnopqrstuvwxyz0123456789" : Str).cps.toList
/-- the law's own word for a part that is no name -/
def badP (s : Str) : Bool := decide (s = "") || (decide (8 < s.length) || (decide (s.cps.toList.headD 0 ∈ figs) || !(s.cps.toList.filter fun c => !decide (c ∈ alnum)).isEmpty))
theorem okC_iff (c : Nat) : okC c = decide (c ∈ alnum) := by
  have : alnum = lets ++ figs := by decide +kernel
  unfold okC
  rw [this]
  simp only [List.mem_append]
  by_cases h1 : c ∈ lets <;> by_cases h2 : c ∈ figs <;> simp [h1, h2]
theorem disj : ∀ c ∈ figs, c ∉ lets := by decide +kernel
theorem badP_iff (s : Str) : badP s = !nmB s.cps.toList := by
  unfold badP nmB
  have hl : s.length = s.cps.toList.length := TL.len_tl s
  have h0 : decide (s = "") = decide (s.cps.toList = []) := by
    by_cases h : s = ""
    · rw [h]; rfl
    · have : ¬ s.cps.toList = [] := fun z => h (TL.ext_tl (z.trans empty_tl.symm))
      rw [decide_eq_false h, decide_eq_false this]
  rw [h0, hl]
  generalize s.cps.toList = l
  have hf : (!(l.filter fun c => !decide (c ∈ alnum)).isEmpty) = !l.all okC := by
    have : (l.filter fun c => !decide (c ∈ alnum)).isEmpty = l.all okC := by
      induction l with
      | nil => rfl
      | cons c r ih =>
        rw [List.filter_cons, List.all_cons, okC_iff c]
        by_cases hc : c ∈ alnum
        · rw [decide_eq_true hc]; exact ih
        · rw [decide_eq_false hc]; rfl
    rw [this]
  rw [hf]
  cases l with
  | nil => rfl
  | cons c r =>
    show (decide (c :: r = []) || (decide (8 < (c :: r).length) || (decide (c ∈ figs) || !(c :: r).all okC))) = !(decide (1 ≤ (c :: r).length) && decide ((c :: r).length ≤ 8) && decide (c ∈ lets) && (c :: r).all okC)
    have e1 : decide (c :: r = []) = false := by simp
    have e2 : decide (1 ≤ (c :: r).length) = true := decide_eq_true (Nat.succ_pos _)
    have e3 : decide (8 < (c :: r).length) = !decide ((c :: r).length ≤ 8) := by
      by_cases h : (c :: r).length ≤ 8
      · rw [decide_eq_true h, decide_eq_false (by omega)]; rfl
      · rw [decide_eq_false h, decide_eq_true (by omega)]; rfl
    rw [e1, e2, e3]
    cases ha : (c :: r).all okC with
    | false => simp
    | true =>
      have hc : okC c = true := by rw [List.all_cons, Bool.and_eq_true] at ha; exact ha.1
      have : decide (c ∈ figs) = !decide (c ∈ lets) := by
        unfold okC at hc
        by_cases h1 : c ∈ lets
        · have : c ∉ figs := fun z => disj c z h1
          rw [decide_eq_true h1, decide_eq_false this]; rfl
        · rw [decide_eq_false h1] at hc ⊢
          rw [Bool.false_or] at hc
          rw [hc]; rfl
      rw [this]
      simp
def isLet (parts : List Str) : Bool := (parts.filter badP).isEmpty
theorem isLet_iff (parts : List Str) : isLet parts = parts.all fun z => nmB z.cps.toList := by
  unfold isLet
  induction parts with
  | nil => rfl
  | cons x r ih =>
    rw [List.filter_cons, List.all_cons, badP_iff x]
    cases nmB x.cps.toList with
    | true => exact ih
    | false => rfl
theorem readRow_bent {s : Str} (hl : 2 ≤ s.length) : readRow (.str s) = if isLet (Txt.split s ",") = true then some (Txt.split s ",") else none := by
  rw [readRow_str, isLet_iff]
  have h1 : ¬ s = "-" := fun z => by rw [z] at hl; exact absurd hl (by decide +kernel)
  rw [if_neg h1]
/-! rows and bits that are none -/
def fitB (d : PyData) : Bool := match d with
  | .str s => decide (s.length < 90000)
  | _ => true
theorem fit_of {ds : List PyData} (h : ds.all fitB = true) : ∀ d ∈ ds, Fit d := fun d hd s es => by
  have := List.all_eq_true.mp h d hd
  subst es
  exact of_decide_eq_true this
def rowBad (o : Option PyData) : Bool := match o with
  | some (.list ds) => !ds.all isN && ds.all fitB && decide (ds.length < 1000)
  | some (.tuple ds) => !ds.all isN && ds.all fitB && decide (ds.length < 1000)
  | _ => true
def bitsBad (o : Option PyData) : Bool := match o with
  | some (.list ds) => !ds.all isB && decide (ds.length < 1000)
  | some (.tuple ds) => !ds.all isB && decide (ds.length < 1000)
  | _ => true
section
variable {K : Fr'} {p : Addr} {H : Hp} {y : V} {Kn : VK} {E : XK}
theorem is_dict {a : Addr} (h : H a = some (.dK [])) : Is K H (.ref a) "dict" := ⟨.dct, fun H' e => .base (.dK (e _ _ h))⟩
theorem row_bad {o : Option PyData} (h : rowBad o = true) (d : Dq K p H y o) (r : Rse E (EC K .value) [("part", .str "row")] H) : spRowText K [y] H Kn E := by
  refine ⟨y, rfl, ?_⟩
  cases o with
  | none =>
    obtain ⟨a, rfl, _, h3⟩ := d
    exact .inl ⟨"dict", is_dict h3, rfl, r⟩
  | some d' =>
    have dd : Dp K H y d' := d
    cases dd with
    | lst hs ha =>
      have h' := h
      simp only [rowBad, Bool.and_eq_true, Bool.not_eq_true', decide_eq_true_eq] at h'
      refine .inr ⟨_, _, _, rfl, .inl hs, ha, fit_of h'.1.2, h'.2, ?_⟩
      unfold rowT
      rw [h'.1.1]
      exact r
    | tup hs ha =>
      have h' := h
      simp only [rowBad, Bool.and_eq_true, Bool.not_eq_true', decide_eq_true_eq] at h'
      refine .inr ⟨_, _, _, rfl, .inr hs, ha, fit_of h'.1.2, h'.2, ?_⟩
      unfold rowT
      rw [h'.1.1]
      exact r
    | non => exact .inl ⟨_, is_dp .non, rfl, r⟩
    | bl b => exact .inl ⟨_, is_dp (.bl b), rfl, r⟩
    | int i => exact .inl ⟨_, is_dp (.int i), rfl, r⟩
    | str s => exact .inl ⟨_, is_dp (.str s), rfl, r⟩
theorem bits_bad {o : Option PyData} (h : bitsBad o = true) (d : Dq K p H y o) (r : Rse E (EC K .value) [("part", .str "bits")] H) : spBitsText K [y] H Kn E := by
  refine ⟨y, rfl, ?_⟩
  cases o with
  | none =>
    obtain ⟨a, rfl, _, h3⟩ := d
    exact .inl ⟨"dict", is_dict h3, rfl, r⟩
  | some d' =>
    have dd : Dp K H y d' := d
    cases dd with
    | lst hs ha =>
      have h' := h
      simp only [bitsBad, Bool.and_eq_true, Bool.not_eq_true', decide_eq_true_eq] at h'
      refine .inr ⟨_, _, _, rfl, .inl hs, ha, h'.2, ?_⟩
      unfold bitsT
      rw [h'.1]
      exact r
    | tup hs ha =>
      have h' := h
      simp only [bitsBad, Bool.and_eq_true, Bool.not_eq_true', decide_eq_true_eq] at h'
      refine .inr ⟨_, _, _, rfl, .inr hs, ha, h'.2, ?_⟩
      unfold bitsT
      rw [h'.1]
      exact r
    | non => exact .inl ⟨_, is_dp .non, rfl, r⟩
    | bl b => exact .inl ⟨_, is_dp (.bl b), rfl, r⟩
    | int i => exact .inl ⟨_, is_dp (.int i), rfl, r⟩
    | str s => exact .inl ⟨_, is_dp (.str s), rfl, r⟩
end
/-! the law's words -/
def seps : List Str := [",", " ", "A", "_", "-", ".", "/", "~"]
def odds : List Str := ["2", " ", "-", "a", ","]
def oddsR : List (Option PyData) := [some .none, some (.int 5), some (.str "a"), some (.list [.str "A"]), some (.list [.none]), some (.tuple [.str ""]), some (.list [.tuple [.str "a"]]), some (.list [.str "toolongan"]), none, some (.list [.str "1"])]
def oddsB : List (Option PyData) := [some .none, some (.int 5), some (.str "01"), some (.list [.int 2]), some (.list [.bool true]), some (.list [.none]), some (.tuple [.str "0"]), some (.list [.list [.int 0]]), none]
def nones : List PyData := [.none, .int 5, .tuple [.str "a"], .list [], .str ""]
theorem seps_ok : ∀ s ∈ seps, s.length = 1 ∧ (s.cps.toList.all fun c => decide (c < 128)) = true := by decide +kernel
theorem odds_ok : ∀ s ∈ odds, s.length = 1 ∧ (s.cps.toList.all fun c => decide (c < 128)) = true ∧ s.cps.toList.any (fun c => !b01 c) = true := by decide +kernel
theorem oddsR_bad : ∀ o ∈ oddsR, rowBad o = true := by
  intro o ho
  have : oddsR.all rowBad = true := by decide +kernel
  exact List.all_eq_true.mp this o ho
theorem oddsB_bad : ∀ o ∈ oddsB, bitsBad o = true := by
  intro o ho
  have : oddsB.all bitsBad = true := by decide +kernel
  exact List.all_eq_true.mp this o ho
def noneB (d : PyData) : Bool := (readRow d).isNone && (readBits d).isNone && SeqAt.shaped d && (match d with
  | .str s => decide (s.length < 5000)
  | _ => true)
theorem nones_ok : ∀ d ∈ nones, readRow d = none ∧ readBits d = none ∧ SeqAt.shaped d = true ∧ ∀ s, d = .str s → s.length < 5000 := by
  intro d hd
  have : nones.all noneB = true := by decide +kernel
  have h := List.all_eq_true.mp this d hd
  unfold noneB at h
  simp only [Bool.and_eq_true, Option.isNone_iff_eq_none] at h
  refine ⟨h.1.1.1, h.1.1.2, h.1.2, fun s es => ?_⟩
  have h2 := h.2
  subst es
  exact of_decide_eq_true h2
end K88
/-! ## K88Law -/
set_option Elab.async false
set_option linter.all false
set_option maxRecDepth 100000
set_option maxHeartbeats 8000000
namespace K88
open PySem PySem.Spec PyProof.Rows L2 He Wh Evl LamX
abbrev s_law : Stmt := top 34
abbrev nLaw : List Str := ["script", "pen", "names", "turn", "row", "lap", "bits", "text", "signs", "bit", "at", "sign", "bent", "parts", "is_let", "part", "one", "spot", "other", "odd", "bad", "none"]
theorem sc_law : FnScope nLaw ["script"] (defScope s_law) := ⟨rfl, rfl, rfl, by decide +kernel, rfl, by decide +kernel, by decide +kernel⟩
/-- heard(lambda ..: body) -/
theorem pe_lamH {X : Cx} {ks : List EK} {g : Addr} {fg : FuncData} {T : List (Addr × Str)} {c P : Addr} {k : Nat} {params : Arguments} {body : Expr} {scope : Scope} {t : XK → TE} {p lpos pos : Pos} {own : List Str}
    (HK : HeardK X.K X.mg ks) (FH : FnP X.K "_law_e_heard" sHeard g fg) (hm : X.mg "_law_e_heard" = some (.ref g)) (TB : TabB X.base X.mg c P) (hcode : X.env.code = .ref c) (eT : T = [(P, X.env.qual ++ "<lambda>")]) (hg : Gl X "_law_e_heard") (hr : Room (k + 2) X.A)
    (LA : LamA params own) (L : LamN X.N X.env.scope scope own) (hbody : ∀ (A : Around) (outer : List Env) (s : Shared) (H : Hp) (E : XK) (f c' : Addr), Room k (A.deeper (lamEnv X scope s.heap.objs.size f c')) → PE (lamCx X A outer s H E scope f c') body (t E)) :
    PE X (.Call (.Name "_law_e_heard" p) [.Lambda params body scope lpos] [] pos) (tLam T (THeard X.K ks) t) := by
  obtain ⟨oc, od, dV, kV, doc, pm, an, cdv, ct, osl, e, lk, hcd, hd, _⟩ := FH.ex
  have hb : Binds X.K fg ["call"] [] := FH.bindsN fun _ _ _ _ _ _ us hl => match us, hl with | [_], _ => rfl
  subst e
  exact pe_lamN own hg hm FH.kp lk hcd hb scHeard rfl (.inl rfl) (heard_gives HK) TB hcode (by rw [eT]; exact List.mem_singleton.mpr rfl) (fun q hq _ => by rw [eT] at hq; rw [List.mem_singleton.mp hq]) hr LA L hbody
theorem LAM0 : LamA { posonlyargs := [], args := [], vararg := none, kwonlyargs := [], kw_defaults := [], kwarg := none, defaults := [] } [] :=
  ⟨fun _ => .inl ⟨rfl, rfl⟩, rfl, fun _ _ _ _ _ _ _ _ => rfl, fun _ h => nomatch h⟩
theorem LAM1 {q1 q2 : Pos} : LamA { posonlyargs := [], args := [{ arg := "a1", annotation := none, pos := q1 }], vararg := none, kwonlyargs := [], kw_defaults := [], kwarg := none, defaults := [.Constant (.int 0) 0 q2] } ["a1"] :=
  ⟨fun _ => .inr ⟨_, _, _, rfl, rfl⟩, rfl, fun h => (nomatch h), fun a h q body scope cl T pm cv ctv v => by
    have e : "a1" = a := (List.cons.inj h).1
    subst e
    exact ⟨_, rfl, rfl⟩⟩
section
variable {P : Program} {w : World} {K : Fr'} {mg : Str → Option Value} {base : Heap} {f : Addr} {fd : FuncData}
abbrev lawT (K : Fr') : Addr := (cT K ("law", none)).2
def spLaw (K : Fr') : Sp := fun vs H Q _ => ∃ (a : Addr) (ns : List Int), vs = [.ref a] ∧ SqL K H a (ns.map V.int) ∧ ns.length ≤ 1000000 ∧ Tabs [(lawT K, "law.<locals>.<lambda>")] H ∧ ∀ H', Q (.bl true) H'
theorem ok_law (F : FnP K "law" s_law (ga K "law") fd) (B : Blt mg) {g : Addr} {fg : FuncData} (HK : HeardK K mg [.value, .text]) (FH : FnP K "_law_e_heard" sHeard g fg) (hmH : mg "_law_e_heard" = some (.ref g)) (TB : TabB base mg (cT K ("law", none)).1 (lawT K))
    (G__law_e_pen : Cal P w K mg base CXn 1 "_law_e_pen" ["script"] (spPen K)) (G__law_e_draw : Cal P w K mg base CXn 1 "_law_e_draw" ["pen", "many"] (spDraw K)) (G__law_e_pick : Cal P w K mg base CXn 2 "_law_e_pick" ["pen", "some"] (spPick K))
    (G_row_text : Cal P w K mg base (L2.CX P w) 3 "row_text" ["row"] (spRowText K)) (G_bits_text : Cal P w K mg base (L2.CX P w) 3 "bits_text" ["bits"] (spBitsText K)) (G_read_row : Cal P w K mg base (L2.CX P w) 3 "read_row" ["text"] (spReadRow K)) (G_read_bits : Cal P w K mg base (L2.CX P w) 3 "read_bits" ["text"] (spReadBits K))
    (G_row_text_kw : CalK P w K mg base (L2.CX P w) 3 "row_text" ["row"] ["row"] id (spRowText K)) (G_bits_text_kw : CalK P w K mg base (L2.CX P w) 3 "bits_text" ["bits"] ["bits"] id (spBitsText K)) (G_read_row_kw : CalK P w K mg base (L2.CX P w) 3 "read_row" ["text"] ["text"] id (spReadRow K)) (G_read_bits_kw : CalK P w K mg base (L2.CX P w) 3 "read_bits" ["text"] ["text"] id (spReadBits K)) :
    FnOk P w K mg base CXn 8 (ga K "law") fd ["script"] (spLaw K) := by
  have nd := sc_law.nd
  obtain ⟨oc, od, dV, kV, doc, pm, an, cdv, ct, osl, e, lk, hcd, hd, _⟩ := F.ex
  obtain ⟨cc, rfl⟩ := codeIn_ref hcd
  have ecc : (cT K ("law", none)).1 = cc := codeOf_eq (p := ("law", none)) lk (by rw [e])
  subst e
  refine fn_of lk hcd sc_law (fun vs H Q E h => ?_) fun A outer s H vs Q E hr h => ?_
  · obtain ⟨_, _, rfl, _⟩ := h; rfl
  have hcode : (cxOf CXn P w K mg base nLaw "law" (defScope s_law) (ga K "law") (.ref cc) A outer s H E).nox.env.code = .ref (cT K ("law", none)).1 := by rw [ecc]; rfl
  have eT : [(lawT K, ("law.<locals>.<lambda>" : Str))] = [(lawT K, (cxOf CXn P w K mg base nLaw "law" (defScope s_law) (ga K "law") (.ref cc) A outer s H E).nox.env.qual ++ "<lambda>")] := by rfl
  refine ⟨_, PSs.nox
    (pss_cons (ps_set (i := 1) nd rfl (Or.inr rfl) (pe_cal G__law_e_pen (hr.mono (by decide)) rfl pass0 (pa_cons (pv 0) pa_nil)))
      (pss_cons (ps_set (i := 2) nd rfl (Or.inr rfl) (pe_lst (pa_cons pe_str (pa_cons pe_str (pa_cons pe_str (pa_cons pe_str (pa_cons pe_str (pa_cons pe_str (pa_cons pe_str (pa_cons pe_str (pa_cons pe_str (pa_cons pe_str pa_nil))))))))))))
      (pss_cons (ps_for PassesOwn.never rfl (pi_range1 (by rfl) B.range (pa_cons pe_int pa_nil)) (pg_name (i := 3) nd rfl (Or.inl rfl)) (pss_cons (ps_setLc (i := 4) (own := [("lap", 5)]) (g := gName 5) (tt := tYes) rfl nd rfl rfl (sw_true rfl rfl rfl (by decide +kernel)) (pi_range1 (by rfl) B.range (pa_cons (pe_cal G__law_e_draw (hr.mono (by decide)) rfl pass0 (pa_cons (pv 1) (pa_cons (pe_cal G__law_e_pick (hr.mono (by decide)) rfl pass0 (pa_cons (pv 1) (pa_cons (pe_lst (pa_cons pe_int (pa_cons pe_int (pa_cons pe_int pa_nil)))) pa_nil))) pa_nil))) pa_nil)) (blkOk_by (N := ["script", "pen", "names", "turn", "row", "lap", "bits", "text", "signs", "bit", "at", "sign", "bent", "parts", "is_let", "part", "one", "spot", "other", "odd", "bad", "none"]) (sc := (defScope s_law)) (by decide +kernel)) (fun _ _ _ _ _ => (pg_name (i := 5) nd rfl (Or.inl rfl))) (fun _ _ _ _ _ => pts_nil) (fun _ _ _ _ _ => (pe_cal G__law_e_pick (hr.mono (by decide)) rfl pass0 (pa_cons (pv 1) (pa_cons (pv 2) pa_nil)))))
      (pss_cons (ps_setLc (i := 6) (own := [("lap", 5)]) (g := gName 5) (tt := tYes) rfl nd rfl rfl (sw_true rfl rfl rfl (by decide +kernel)) (pi_range1 (by rfl) B.range (pa_cons (pe_cal G__law_e_draw (hr.mono (by decide)) rfl pass0 (pa_cons (pv 1) (pa_cons (pe_cal G__law_e_pick (hr.mono (by decide)) rfl pass0 (pa_cons (pv 1) (pa_cons (pe_lst (pa_cons pe_int (pa_cons pe_int (pa_cons pe_int pa_nil)))) pa_nil))) pa_nil))) pa_nil)) (blkOk_by (N := ["script", "pen", "names", "turn", "row", "lap", "bits", "text", "signs", "bit", "at", "sign", "bent", "parts", "is_let", "part", "one", "spot", "other", "odd", "bad", "none"]) (sc := (defScope s_law)) (by decide +kernel)) (fun _ _ _ _ _ => (pg_name (i := 5) nd rfl (Or.inl rfl))) (fun _ _ _ _ _ => pts_nil) (fun _ _ _ _ _ => (pe_cal G__law_e_draw (hr.mono (by decide)) rfl pass0 (pa_cons (pv 1) (pa_cons pe_int pa_nil)))))
      (pss_cons (ps_asg (pe_tup (pa_cons (pe_ifExp (pt_cmpR (op_neDK (K := K) rfl hr.units) (pv 4) (pe_lst pa_nil) (nomark _)) (pe_join pe_str (pv 4)) pe_str) (pa_cons (pe_ifExp (pt_cmpR (op_neDK (K := K) rfl hr.units) (pv 6) (pe_lst pa_nil) (nomark _)) (pe_join pe_str (pe_lc (own := [("bit", 9)]) (g := gName 9) (tt := tYes) rfl nd (pi_listK (K := K) rfl (pv 6)) (blkOk_by (N := ["script", "pen", "names", "turn", "row", "lap", "bits", "text", "signs", "bit", "at", "sign", "bent", "parts", "is_let", "part", "one", "spot", "other", "odd", "bad", "none"]) (sc := (defScope s_law)) (by decide +kernel)) (fun _ _ _ _ _ => (pg_name (i := 9) nd rfl (Or.inl rfl))) (fun _ _ _ _ _ => pts_nil) (fun _ _ _ _ _ => (pe_callTy call_str_int (by rfl) B.str (by decide +kernel) (pa_cons (pv 9) pa_nil))))) pe_str) pa_nil))) (pg_tup rfl (pgs_cons (pg_name (i := 7) nd rfl (Or.inl rfl)) (pgs_cons (pg_name (i := 8) nd rfl (Or.inr rfl)) pgs_nil))))
      (pss_cons (ps_if (PW.pt (pw_or (pt_cmpR op_ne (pe_cal G_row_text (hr.mono (by decide)) rfl passE (pa_cons (pv 4) pa_nil)) (pv 7) (nomark _)) (pw_or (pt_cmpR op_ne (pe_calK G_row_text_kw (fun _ _ _ h => h) (hr.mono (by decide)) rfl passE (pk_cons (pe_callTy (call_tuple_ofK (K := K) rfl) (by rfl) B.tuple (by decide +kernel) (pa_cons (pv 4) pa_nil)) pk_nil)) (pv 7) (nomark _)) (pw_or (pt_cmpR (op_neDK (K := K) rfl hr.units) (pe_cal G_read_row (hr.mono (by decide)) rfl passE (pa_cons (pv 7) pa_nil)) (pe_callTy (call_tuple_ofK (K := K) rfl) (by rfl) B.tuple (by decide +kernel) (pa_cons (pv 4) pa_nil)) (nomark _)) (pw_or1 (pt_cmpR (op_neDK (K := K) rfl hr.units) (pe_calK G_read_row_kw (fun _ _ _ h => h) (hr.mono (by decide)) rfl passE (pk_cons (pv 7) pk_nil)) (pe_callTy (call_tuple_ofK (K := K) rfl) (by rfl) B.tuple (by decide +kernel) (pa_cons (pv 4) pa_nil)) (nomark _))))))) (pss_one (ps_ret pe_bl)) pss_nil)
      (pss_cons (ps_if (PW.pt (pw_or (pt_cmpR op_ne (pe_cal G_bits_text (hr.mono (by decide)) rfl passE (pa_cons (pv 6) pa_nil)) (pv 8) (nomark _)) (pw_or (pt_cmpR op_ne (pe_calK G_bits_text_kw (fun _ _ _ h => h) (hr.mono (by decide)) rfl passE (pk_cons (pe_callTy (call_tuple_ofK (K := K) rfl) (by rfl) B.tuple (by decide +kernel) (pa_cons (pv 6) pa_nil)) pk_nil)) (pv 8) (nomark _)) (pw_or (pt_cmpR (op_neDK (K := K) rfl hr.units) (pe_cal G_read_bits (hr.mono (by decide)) rfl passE (pa_cons (pv 8) pa_nil)) (pe_callTy (call_tuple_ofK (K := K) rfl) (by rfl) B.tuple (by decide +kernel) (pa_cons (pv 6) pa_nil)) (nomark _)) (pw_or1 (pt_cmpR (op_neDK (K := K) rfl hr.units) (pe_calK G_read_bits_kw (fun _ _ _ h => h) (hr.mono (by decide)) rfl passE (pk_cons (pv 8) pk_nil)) (pe_callTy (call_tuple_ofK (K := K) rfl) (by rfl) B.tuple (by decide +kernel) (pa_cons (pv 6) pa_nil)) (nomark _))))))) (pss_one (ps_ret pe_bl)) pss_nil)
      (pss_cons (ps_par (i := 10) (j := 11) rfl nd rfl rfl (by decide) rfl rfl (pa_cons (pe_cal G__law_e_draw (hr.mono (by decide)) rfl pass0 (pa_cons (pv 1) (pa_cons (pe_op op_add (pe_callB (call_lenK (K := K) rfl) (by rfl) B.len (show bootBuiltins "len" = some (.builtin "len") by decide +kernel) (pa_cons (pv 7) pa_nil)) pe_int) pa_nil))) (pa_cons (pe_cal G__law_e_pick (hr.mono (by decide)) rfl pass0 (pa_cons (pv 1) (pa_cons (pe_lst (pa_cons pe_str (pa_cons pe_str (pa_cons pe_str (pa_cons pe_str (pa_cons pe_str (pa_cons pe_str (pa_cons pe_str (pa_cons pe_str pa_nil))))))))) pa_nil))) pa_nil)) (by rfl))
      (pss_cons (ps_set (i := 12) nd rfl (Or.inr rfl) (pe_op op_add_str (pe_op op_add_str (pe_slice sl_str (pv 7) po_none (po_some (pv 10))) (pv 11)) (pe_slice sl_str (pv 7) (po_some (pv 10)) po_none)))
      (pss_cons (ps_set (i := 13) nd rfl (Or.inl rfl) (pe_split (pv 12) pe_str))
      (pss_cons (ps_set (i := 14) nd rfl (Or.inl rfl) (pe_cmpR (op_eqDK (K := K) rfl hr.units) (pe_lc (own := [("part", 15)]) (g := gName 15)  rfl nd (pi_listK (K := K) rfl (pv 13)) (blkOk_by (N := ["script", "pen", "names", "turn", "row", "lap", "bits", "text", "signs", "bit", "at", "sign", "bent", "parts", "is_let", "part", "one", "spot", "other", "odd", "bad", "none"]) (sc := (defScope s_law)) (by decide +kernel)) (fun _ _ _ _ _ => (pg_name (i := 15) nd rfl (Or.inl rfl))) (fun _ _ _ _ _ => (pts_one (PW.pt (pw_or (pt_cmpR op_eq (pv 15) pe_str (nomark _)) (pw_or (pt_cmpR op_gt (pe_callB (call_lenK (K := K) rfl) (by rfl) B.len (show bootBuiltins "len" = some (.builtin "len") by decide +kernel) (pa_cons (pv 15) pa_nil)) pe_int (nomark _)) (pw_or (pt_cmpR op_in_sign (pe_ix ix_str (pv 15) pe_int (fun _ _ => rfl)) pe_str (by rfl)) (pw_or1 (pt_cmpR (op_neDK (K := K) rfl hr.units) (pe_lc (own := [("one", 16)]) (g := gName 16)  rfl nd (pi_str (pv 15)) (blkOk_by (N := ["script", "pen", "names", "turn", "row", "lap", "bits", "text", "signs", "bit", "at", "sign", "bent", "parts", "is_let", "part", "one", "spot", "other", "odd", "bad", "none"]) (sc := _) (by kernel_rfl)) (fun _ _ _ _ _ => (pg_name (i := 16) nd rfl (Or.inl rfl))) (fun _ _ _ _ _ => (pts_one (pt_cmpR op_notIn_sign (pv 16) pe_str (by rfl)))) (fun _ _ _ _ _ => (pv 16))) (pe_lst pa_nil) (nomark _))))))))) (fun _ _ _ _ _ => pe_int)) (pe_lst pa_nil) (nomark _)))
      (pss_cons (ps_if (pt_cmpR (op_neDK (K := K) rfl hr.units) (pe_lamH (k := 5) HK FH hmH TB hcode eT rfl (hr.mono (by decide)) (own := []) LAM0 (lamN_by (by kernel_rfl)) (fun A outer s H E f c' hr => (pe_cal G_read_row (hr.mono (by decide)) rfl (passes_call (takes_of rfl rfl rfl rfl) (fun _ _ _ _ h => h)) (pa_cons (pv 12) pa_nil)))) (pe_ifExp (pt_val (pv 14)) (pe_lst (pa_cons (pe_callTy (call_tuple_ofK (K := K) rfl) (by rfl) B.tuple (by decide +kernel) (pa_cons (pv 13) pa_nil)) pa_nil)) (pe_tup (pa_cons pe_str (pa_cons pe_int (pa_cons pe_int pa_nil))))) (nomark _)) (pss_one (ps_ret pe_bl)) pss_nil)
      (pss_cons (ps_asg (pe_tup (pa_cons (pe_cal G__law_e_draw (hr.mono (by decide)) rfl pass0 (pa_cons (pv 1) (pa_cons (pe_op op_add (pe_callB (call_lenK (K := K) rfl) (by rfl) B.len (show bootBuiltins "len" = some (.builtin "len") by decide +kernel) (pa_cons (pv 8) pa_nil)) pe_int) pa_nil))) (pa_cons (pe_cal G__law_e_pick (hr.mono (by decide)) rfl pass0 (pa_cons (pv 1) (pa_cons (pe_lst (pa_cons pe_str (pa_cons pe_str (pa_cons pe_str (pa_cons pe_str (pa_cons pe_str pa_nil)))))) pa_nil))) pa_nil))) (pg_tup rfl (pgs_cons (pg_name (i := 17) nd rfl (Or.inr rfl)) (pgs_cons (pg_name (i := 18) nd rfl (Or.inr rfl)) pgs_nil))))
      (pss_cons (ps_if (pt_cmpR (op_neDK (K := K) rfl hr.units) (pe_lamH (k := 5) HK FH hmH TB hcode eT rfl (hr.mono (by decide)) (own := []) LAM0 (lamN_by (by kernel_rfl)) (fun A outer s H E f c' hr => (pe_cal G_read_bits (hr.mono (by decide)) rfl (passes_call (takes_of rfl rfl rfl rfl) (fun _ _ _ _ h => h)) (pa_cons (pe_op op_add_str (pe_op op_add_str (pe_slice sl_str (pv 8) po_none (po_some (pv 17))) (pv 18)) (pe_slice sl_str (pv 8) (po_some (pv 17)) po_none)) pa_nil)))) (pe_tup (pa_cons pe_str (pa_cons pe_int (pa_cons pe_int pa_nil)))) (nomark _)) (pss_one (ps_ret pe_bl)) pss_nil)
      (pss_cons (ps_set (i := 19) nd rfl (Or.inr rfl) (pe_cal G__law_e_pick (hr.mono (by decide)) rfl pass0 (pa_cons (pv 1) (pa_cons (pe_lst (pa_cons pe_non (pa_cons pe_int (pa_cons pe_str (pa_cons (pe_lst (pa_cons pe_str pa_nil)) (pa_cons (pe_lst (pa_cons pe_non pa_nil)) (pa_cons (pe_tup (pa_cons pe_str pa_nil)) (pa_cons (pe_lst (pa_cons (pe_tup (pa_cons pe_str pa_nil)) pa_nil)) (pa_cons (pe_lst (pa_cons pe_str pa_nil)) (pa_cons pe_dnewK (pa_cons (pe_lst (pa_cons pe_str pa_nil)) pa_nil))))))))))) pa_nil))))
      (pss_cons (ps_set (i := 20) nd rfl (Or.inr rfl) (pe_cal G__law_e_pick (hr.mono (by decide)) rfl pass0 (pa_cons (pv 1) (pa_cons (pe_lst (pa_cons pe_non (pa_cons pe_int (pa_cons pe_str (pa_cons (pe_lst (pa_cons pe_int pa_nil)) (pa_cons (pe_lst (pa_cons pe_bl pa_nil)) (pa_cons (pe_lst (pa_cons pe_non pa_nil)) (pa_cons (pe_tup (pa_cons pe_str pa_nil)) (pa_cons (pe_lst (pa_cons (pe_lst (pa_cons pe_int pa_nil)) pa_nil)) (pa_cons pe_dnewK pa_nil)))))))))) pa_nil))))
      (pss_cons (ps_if (pt_cmpR (op_neDK (K := K) rfl hr.units) (pe_lst (pa_cons (pe_lamH (k := 5) HK FH hmH TB hcode eT rfl (hr.mono (by decide)) (own := []) LAM0 (lamN_by (by kernel_rfl)) (fun A outer s H E f c' hr => (pe_cal G_row_text (hr.mono (by decide)) rfl (passes_call (takes_of rfl rfl rfl rfl) (fun _ _ _ _ h => h)) (pa_cons (pv 19) pa_nil)))) (pa_cons (pe_lamH (k := 5) HK FH hmH TB hcode eT rfl (hr.mono (by decide)) (own := ["a1"]) LAM1 (lamN_by (by kernel_rfl)) (fun A outer s H E f c' hr => (pe_cal G_bits_text (hr.mono (by decide)) rfl (passes_call (takes_of rfl rfl rfl rfl) (fun _ _ _ _ h => h)) (pa_cons (pv 20) pa_nil)))) pa_nil))) (pe_lst (pa_cons (pe_tup (pa_cons pe_str (pa_cons pe_str pa_nil))) (pa_cons (pe_tup (pa_cons pe_str (pa_cons pe_str pa_nil))) pa_nil))) (nomark _)) (pss_one (ps_ret pe_bl)) pss_nil)
      (pss_cons (ps_set (i := 21) nd rfl (Or.inr rfl) (pe_cal G__law_e_pick (hr.mono (by decide)) rfl pass0 (pa_cons (pv 1) (pa_cons (pe_lst (pa_cons pe_non (pa_cons pe_int (pa_cons (pe_tup (pa_cons pe_str pa_nil)) (pa_cons (pe_lst pa_nil) (pa_cons pe_str pa_nil)))))) pa_nil))))
      (pss_one (ps_if (pt_cmpR (op_neDK (K := K) rfl hr.units) (pe_lst (pa_cons (pe_lamH (k := 5) HK FH hmH TB hcode eT rfl (hr.mono (by decide)) (own := []) LAM0 (lamN_by (by kernel_rfl)) (fun A outer s H E f c' hr => (pe_cal G_read_row (hr.mono (by decide)) rfl (passes_call (takes_of rfl rfl rfl rfl) (fun _ _ _ _ h => h)) (pa_cons (pv 21) pa_nil)))) (pa_cons (pe_lamH (k := 5) HK FH hmH TB hcode eT rfl (hr.mono (by decide)) (own := ["a1"]) LAM1 (lamN_by (by kernel_rfl)) (fun A outer s H E f c' hr => (pe_cal G_read_bits (hr.mono (by decide)) rfl (passes_call (takes_of rfl rfl rfl rfl) (fun _ _ _ _ h => h)) (pa_cons (pv 21) pa_nil)))) pa_nil))) (pe_op op_rep (pe_lst (pa_cons (pe_tup (pa_cons pe_str (pa_cons pe_int (pa_cons pe_int pa_nil)))) pa_nil)) pe_int) (nomark _)) (pss_one (ps_ret pe_bl)) pss_nil)))))))))))))))))))
      (pss_one (ps_ret pe_bl))))), ?_⟩
  obtain ⟨a, ns, rfl, hs, hz, ht, hQ⟩ := h
  refine q_pen rfl hs hz fun p pc H1 hp0 e1 hp1 => ?_
  refine q_asgL (el_lst (vs := namesL.map V.str) (by repeat (first | exact ea_nil | refine ea_cons ev_c ?_)) (by decide)) fun q H2 hq0 e2 hq2 => ?_
  have hp2 := hp1.ex e2
  have ht2 := (ht.ext e1).ext e2
  refine q_forR1 (n := 10) (ea_cons ev_c ea_nil) (by decide) (fun i σ' H' => (∃ rest : St, σ' = some (.ref a) :: some (.ref p) :: some (.ref q) :: rest ∧ rest.length = 19) ∧ H' q = some (.lst (namesL.map V.str)) ∧ PenAt K H' p pc (200 * i) ∧ Tabs [(lawT K, "law.<locals>.<lambda>")] H') (fun H3 e3 => ⟨⟨_, rfl, rfl⟩, e3 _ _ hq2, hp2.ex e3, ht2.ext e3⟩) (fun i σ' H3 hi w => ?_) (fun σ' H3 w => ?_)
  rotate_left
  · exact s_ret ev_c fun H4 _ => hQ H4
  obtain ⟨⟨rest, rfl, hrl⟩, hq3, hp3, ht3⟩ := w
  obtain ⟨x3, x4, x5, x6, x7, x8, x9, x10, x11, x12, x13, x14, x15, x16, x17, x18, x19, x20, x21, rfl⟩ : ∃ x3 x4 x5 x6 x7 x8 x9 x10 x11 x12 x13 x14 x15 x16 x17 x18 x19 x20 x21, rest = [x3, x4, x5, x6, x7, x8, x9, x10, x11, x12, x13, x14, x15, x16, x17, x18, x19, x20, x21] := by
    match rest, hrl with
    | [x3, x4, x5, x6, x7, x8, x9, x10, x11, x12, x13, x14, x15, x16, x17, x18, x19, x20, x21], _ => exact ⟨_, _, _, _, _, _, _, _, _, _, _, _, _, _, _, _, _, _, _, rfl⟩
  have hi10 : i < 10 := by omega
  refine q_rep (M := 40) (c := 2) (P := fun y => y ∈ namesL.map V.str) (dr_drawD rfl (dr_pickQ (os := [2, 5, 40].map fun s => some (.int s)) rfl (fun H1 _ => eqa_cons eq_int (eqa_cons eq_int (eqa_cons eq_int eqa_nil))) (by decide) (by decide)) (fun y H2 h => pick_int rfl (by decide) h) (by decide)) (by decide) (fun x => rfl) (fun H1 x g => dr_pickL rfl rfl (sq_of (g.1 _ _ hq3 (fun _ z => by cases z) (fun _ z => by cases z))) (by decide) (by decide)) hp3 (by omega) fun ys q4 H4 hl4 hP4 g4 hp4 hq4 => ?_
  obtain ⟨rs, rfl, hrs⟩ := strs_of hP4
  obtain ⟨kv, hk3⟩ := hp3.dk
  have ht4 := Tabs.gp ht3 hk3 g4
  have hn4 := g4.1 _ _ hq3 (fun _ z => by cases z) (fun _ z => by cases z)
  refine q_rep (M := 40) (c := 2) (P := fun y => ∃ r, y = V.int r ∧ 0 ≤ r ∧ r < 2) (dr_drawD rfl (dr_pickQ (os := [2, 9, 40].map fun s => some (.int s)) rfl (fun H1 _ => eqa_cons eq_int (eqa_cons eq_int (eqa_cons eq_int eqa_nil))) (by decide) (by decide)) (fun y H2 h => pick_int rfl (by decide) h) (by decide)) (by decide) (fun x => rfl) (fun H1 x g => dr_draw (m := 2) rfl (fun _ _ => ev_c) (by decide) (by decide)) hp4 (by omega) fun ys q5 H5 hl5 hP5 g5 hp5 hq5 => ?_
  obtain ⟨bs, rfl, hbs'⟩ := ints_of hP5
  have hbs : ∀ i ∈ bs, i = 0 ∨ i = 1 := fun i hi => by have := hbs' i hi; omega
  obtain ⟨kv4, hk4⟩ := hp4.dk
  have ht5 := Tabs.gp ht4 hk4 g5
  have hn5 := g5.1 _ _ hn4 (fun _ z => by cases z) (fun _ z => by cases z)
  have hr5 := g5.1 _ _ hq4 (fun _ z => by cases z) (fun _ z => by cases z)
  rw [List.length_map] at hl4 hl5
  obtain ⟨hT1, hT2⟩ := text_ok hrs (by omega)
  obtain ⟨hS1, hS2, hS3⟩ := signs_ok hbs (by omega)
  have hrsO : ∀ s ∈ rs, Ok s := fun s hs => ok_of (names_ok s (hrs s hs)).2.2.1
  -- the texts
  refine q_asgT2 (x := V.str (textOf rs)) (y := V.str (signsOf bs)) (ea_cons (ev_if (b := decide (0 < rs.length)) (et_test (ev_is (ev_neQ (K := K) (p := p) (q := p) (eq_ev (ev_var rfl) fun H' e => .lst (sq_of (e _ _ hr5)) (dp_strs rs)) (eq_L (el_lst ea_nil (by decide)) fun _ _ => .nil) (sh_strs hrsO) (by decide)) ?_)) (fun hb => ?_) (fun hb => ?_))
    (ea_cons (ev_if (b := decide (0 < bs.length)) (et_test (ev_is (ev_neQ (K := K) (p := p) (q := p) (eq_ev (ev_var rfl) fun H' e => .lst (sq_of (e _ _ hq5)) (dp_ints bs)) (eq_L (el_lst ea_nil (by decide)) fun _ _ => .nil) (sh_ints bs) (by decide)) ?_)) (fun hb => ?_) (fun hb => ?_)) ea_nil)) rfl fun H6 e6 => ?_
  · cases rs <;> rfl
  · refine ev_is (ev_m1 ev_c (ev_var rfl) fun H2 e2 Q q => ⟨_, q4, rs, rfl, rfl, .inl (sq_of (e2 _ _ hr5)), ?_, q⟩) ?_
    · have := names_sum hrs
      have h1 : ("," : Str).length = 1 := by decide +kernel
      rw [h1]
      omega
    · unfold textOf; rw [if_pos (of_decide_eq_true hb)]
  · refine ev_is ev_c ?_
    unfold textOf; rw [if_neg (of_decide_eq_false hb)]
  · cases bs <;> rfl
  · refine ev_is (ev_m1L ev_c (el_mapD (K := K) (ds := bs.map PyData.int) (fun d => V.str (bitOf d)) (src_l (ev_var rfl) (sq_of hq5)) (dp_ints bs) (by rw [List.length_map]; exact Nat.lt_of_lt_of_le hl5 (by decide)) (fun _ => rfl) fun x d H2 hm hx e2 => ?_) fun r H2 h2 e2 Q q => ⟨_, r, bs.map bitS, rfl, rfl, .inl (by rw [List.map_map] at h2 ⊢; exact sq_of h2), ?_, q⟩) ?_
    · obtain ⟨i, hi, rfl⟩ := List.mem_map.mp hm
      cases hx
      exact ev_cb (ea_cons (ev_var rfl) ea_nil) fun H3 e3 Q q => ⟨i, rfl, by rcases hbs i hi with rfl | rfl <;> decide, q H3 (Ex.refl _)⟩
    · have : ((bs.map bitS).map (·.length)).sum = bs.length := by
        have := bit_len (ds := bs.map PyData.int) (by rw [List.all_map]; exact List.all_eq_true.mpr fun i hi => by rcases hbs i hi with rfl | rfl <;> rfl)
        rw [List.length_map, List.map_map, List.map_map] at this
        rw [List.map_map]
        exact this
      have h1 : ("" : Str).length = 0 := by decide +kernel
      rw [this, h1]
      omega
    · unfold signsOf; rw [if_pos (of_decide_eq_true hb)]
  · refine ev_is ev_c ?_
    unfold signsOf; rw [if_neg (of_decide_eq_false hb)]
  have hp6 := hp5.ex e6
  have ht6 := ht5.ext e6
  have hn6 := e6 _ _ hn5
  have hr6 := e6 _ _ hr5
  have hb6 := e6 _ _ hq5
  have hrl : rs.length < 1000 := by omega
  have hbl : bs.length < 1000 := by omega
  have fitR : ∀ d ∈ rs.map PyData.str, Fit d := fun d hd s es => by
    obtain ⟨s', hs', rfl⟩ := List.mem_map.mp hd
    cases es
    exact Nat.lt_of_le_of_lt (names_ok _ (hrs _ hs')).2.1 (by decide)
  -- texts written and read
  refine q_pass (et_orF (et_neS (ev_call (ea_cons (ev_var rfl) ea_nil) fun H7 e7 Q q E => ⟨_, rfl, .inr ⟨q4, _, _, rfl, .inl (sq_of (e7 _ _ hr6)), dp_strs rs, fitR, by rw [List.length_map]; exact hrl, by rw [rowT_ok hrs]; exact q⟩⟩) (ev_var rfl))
    (et_orF (et_neS (ev_callKU (eu_tuple1 (ev_var rfl) (sq_of hr6)) fun r H7 h7 e7 H8 e8 Q q E => ⟨_, rfl, .inr ⟨r, _, _, rfl, .inr (st_of (e8 _ _ h7)), dp_strs rs, fitR, by rw [List.length_map]; exact hrl, by rw [rowT_ok hrs]; exact q⟩⟩) (ev_var rfl))
    (et_orF (et_neQ (p := p) (q := p) (eu_call (ea_cons (ev_var rfl) ea_nil) (fun H7 e7 Q E q => ⟨_, _, rfl, .str _, sh_str hT1, fun s es => by cases es; omega, by rw [readRow_ok hrs]; exact q⟩) fun _ => dp_strs rs) (eq_U (eu_tuple1 (ev_var rfl) (sq_of hr6)) fun _ _ => dp_strs rs) (sh_strsT hrsO))
      (et_neQ (p := p) (q := p) (eu_callK (ea_cons (ev_var rfl) ea_nil) (fun H7 e7 Q E q => ⟨_, _, rfl, .str _, sh_str hT1, fun s es => by cases es; omega, by rw [readRow_ok hrs]; exact q⟩) fun _ => dp_strs rs) (eq_U (eu_tuple1 (ev_var rfl) (sq_of hr6)) fun _ _ => dp_strs rs) (sh_strsT hrsO))))) fun H7 e7 => ?_
  have hp7 := hp6.ex e7
  have ht7 := ht6.ext e7
  have hn7 := e7 _ _ hn6
  have hb7 := e7 _ _ hb6
  refine q_pass (et_orF (et_neS (ev_call (ea_cons (ev_var rfl) ea_nil) fun H8 e8 Q q E => ⟨_, rfl, .inr ⟨q5, _, _, rfl, .inl (sq_of (e8 _ _ hb7)), dp_ints bs, by rw [List.length_map]; exact hbl, by rw [bitsT_ok hbs]; exact q⟩⟩) (ev_var rfl))
    (et_orF (et_neS (ev_callKU (eu_tuple1 (ev_var rfl) (sq_of hb7)) fun r H8 h8 e8 H9 e9 Q q E => ⟨_, rfl, .inr ⟨r, _, _, rfl, .inr (st_of (e9 _ _ h8)), dp_ints bs, by rw [List.length_map]; exact hbl, by rw [bitsT_ok hbs]; exact q⟩⟩) (ev_var rfl))
    (et_orF (et_neQ (p := p) (q := p) (eu_call (ea_cons (ev_var rfl) ea_nil) (fun H8 e8 Q E q => ⟨_, _, rfl, .str _, sh_str hS1, fun s es => by cases es; omega, by rw [readBits_ok hbs]; exact q⟩) fun _ => dp_ints bs) (eq_U (eu_tuple1 (ev_var rfl) (sq_of hb7)) fun _ _ => dp_ints bs) (sh_intsT bs))
      (et_neQ (p := p) (q := p) (eu_callK (ea_cons (ev_var rfl) ea_nil) (fun H8 e8 Q E q => ⟨_, _, rfl, .str _, sh_str hS1, fun s es => by cases es; omega, by rw [readBits_ok hbs]; exact q⟩) fun _ => dp_ints bs) (eq_U (eu_tuple1 (ev_var rfl) (sq_of hb7)) fun _ _ => dp_ints bs) (sh_intsT bs))))) fun H8 e8 => ?_
  have hp8 := hp7.ex e8
  have ht8 := ht7.ext e8
  have hn8 := e8 _ _ hn7
  have hTz : (textOf rs).length ≤ sizeLine := Nat.le_trans (Nat.le_of_lt hT2) (by decide)
  have hSz : (signsOf bs).length ≤ sizeLine := Nat.le_trans (Nat.le_of_lt hS2) (by decide)
  -- a bent row
  refine q_drPar (dr_draw (m := ((textOf rs).length : Int) + 1) rfl (fun H1 g => ev_op (ev_lenS (ev_var rfl) hTz) ev_c rv_I0) (by omega) (by omega)) (dr_pickQ (os := seps.map fun s => some (.str s)) rfl (fun H1 _ => eqa_cons eq_str (eqa_cons eq_str (eqa_cons eq_str (eqa_cons eq_str (eqa_cons eq_str (eqa_cons eq_str (eqa_cons eq_str (eqa_cons eq_str eqa_nil)))))))) (by decide) (by decide)) hp8 (by omega) (fun y H1 H2 h _ => h) fun x y H9 hx hy g9 hp9 => ?_
  obtain ⟨k0, rfl, k1, k2⟩ := hx
  obtain ⟨sg, hsg, rfl⟩ := pick_str rfl hy
  obtain ⟨hsg1, hsg2⟩ := seps_ok sg hsg
  obtain ⟨kv8, hk8⟩ := hp8.dk
  have ht9 := Tabs.gp ht8 hk8 g9
  have hn9 := g9.1 _ _ hn8 (fun _ z => by cases z) (fun _ z => by cases z)
  have hk3' : k0 ≤ ((textOf rs).length : Int) := by omega
  have hcl := fun lo hi => cutS_length (textOf rs) lo hi
  refine q_asg (v := .str (bentS (textOf rs) sg k0)) (ev_addS (ev_addS (ev_slS (ev_var rfl) eo_none (eo_some (ev_var rfl)) hTz) (ev_var rfl) ?_) (ev_slS (ev_var rfl) (eo_some (ev_var rfl)) eo_none hTz) ?_) fun H10 e10 => ?_
  · have := hcl none (some k0)
    exact Nat.le_trans (by omega : _ ≤ 4000) (by decide)
  · have h1 := hcl none (some k0)
    have h2 := hcl (some k0) none
    rw [len_app]
    exact Nat.le_trans (by omega : _ ≤ 6000) (by decide)
  have hBl := bent_len (textOf rs) sg k0 k1 hk3'
  have hT0 : 1 ≤ (textOf rs).length := text_pos hrs
  have hB2 : 2 ≤ (bentS (textOf rs) sg k0).length := by omega
  have hB3 : (bentS (textOf rs) sg k0).length < 2500 := by omega
  have hBO : Ok (bentS (textOf rs) sg k0) := fun c hc => by
    rcases bent_in (textOf rs) sg k0 k1 hk3' hc with z | z
    · exact hT1 c z
    · exact ok_of hsg2 c z
  generalize bentS (textOf rs) sg k0 = bent at hBl hB2 hB3 hBO
  refine q_asgL (xs := (Txt.split bent ",").map V.str) (el_m1 (ev_var rfl) ev_c fun H2 e2 Q q => ⟨bent, ",", rfl, rfl, rfl, Nat.le_trans (by omega : bent.length + 2 ≤ 2502) (by decide), q⟩) fun q11 H11 _ e11 hq11 => ?_
  obtain ⟨hpl, hpn⟩ := split_lens bent
  have hpO : ∀ z ∈ Txt.split bent ",", Ok z := fun z hz c hc => hBO c ((split_in bent z hz).2 c hc)
  have hrb := readRow_bent hB2
  generalize Txt.split bent "," = parts at hpl hpn hpO hrb hq11
  refine q_asg (v := .bl (isLet parts)) (ev_is (ev_eqQ (K := K) (p := p) (q := p) (d := .list (((parts.filter badP).map fun _ => (1 : Int)).map PyData.int)) (e := .list []) (eq_L (xs := ((parts.filter badP).map fun _ => (1 : Int)).map V.int) ?_ fun _ _ => dp_ints _) (eq_L (el_lst ea_nil (by decide)) fun _ _ => .nil) (sh_ints _) (by decide)) ?_) fun H12 e12 => ?_
  · have hm : mapF (fun v => badP (strV v)) (fun _ => V.int 1) (parts.map V.str) = ((parts.filter badP).map fun _ => (1 : Int)).map V.int := by
      unfold mapF
      rw [List.filter_map, List.map_map, List.map_map]
      rfl
    rw [← hm]
    refine el_lcO (fun v => badP (strV v)) (fun _ => V.int 1) (src_l (ev_var rfl) (sq_of hq11)) (by rw [List.length_map]; exact Nat.lt_of_le_of_lt hpn (Nat.lt_of_lt_of_le (by omega : bent.length + 1 < 2502) (by decide))) (fun _ => rfl) (fun x H2 hx e2 => ?_) (fun x H2 hx _ e2 => ev_c)
    obtain ⟨pt, hpt, rfl⟩ := List.mem_map.mp hx
    have hptl := hpl pt hpt
    have hpts : pt.length ≤ sizeLine := Nat.le_trans (by omega : pt.length ≤ 2500) (by decide)
    have hpl8 : pt.length = pt.cps.toList.length := TL.len_tl pt
    refine et_is (et_or (et_test (ev_op (ev_var rfl) ev_c (rv_eq rfl))) fun h0 => et_or (et_test (ev_op (ev_lenS (ev_var rfl) hpts) ev_c rv_I0)) fun _ => et_or (et_test (ev_inS (c := pt.cps.toList.headD 0) (ev_op (ev_var rfl) ev_c (rv_ixS (by omega) ?_)) ev_c)) fun _ => et_test (ev_neQ (K := K) (p := p) (q := p) (d := .list (((pt.cps.toList.filter fun c => !decide (c ∈ alnum)).map fun c => (⟨#[c]⟩ : Str)).map PyData.str)) (e := .list []) (eq_L (xs := ((pt.cps.toList.filter fun c => !decide (c ∈ alnum)).map fun c => (⟨#[c]⟩ : Str)).map V.str) ?_ fun _ _ => dp_strs _) (eq_L (el_lst ea_nil (by decide)) fun _ _ => .nil) (sh_strs ?_) (by decide))) ?_
    · cases hz0 : pt.cps.toList with
      | nil =>
        have : pt = "" := TL.ext_tl (hz0.trans empty_tl.symm)
        rw [this] at h0
        exact absurd h0 (by decide +kernel)
      | cons c r => exact atI_nat (j := 0) rfl
    · have hm2 : mapF (fun v => !decide (chV v ∈ alnum)) (fun v => v) (Wh.signs pt) = ((pt.cps.toList.filter fun c => !decide (c ∈ alnum)).map fun c => (⟨#[c]⟩ : Str)).map V.str := by
        unfold mapF Wh.signs
        rw [List.filter_map, List.map_id', List.map_map]
        rfl
      rw [← hm2]
      refine el_lcO (fun v => !decide (chV v ∈ alnum)) (fun v => v) (src_s (ev_var rfl)) (by unfold Wh.signs; rw [List.length_map, ← hpl8]; exact Nat.lt_of_le_of_lt hptl (Nat.lt_of_lt_of_le (by omega : bent.length < 2502) (by decide))) (fun _ => rfl) (fun y H4 hy e4 => ?_) fun y H4 hy _ e4 => ev_var rfl
      obtain ⟨c, hc, rfl⟩ := List.mem_map.mp hy
      exact et_test (ev_op (ev_var rfl) ev_c fun H5 _ Q q => ⟨c, _, rfl, rfl, q H5 (Ex.refl _)⟩)
    · intro s hs c hc
      obtain ⟨c', hc', rfl⟩ := List.mem_map.mp hs
      have : c = c' := by simpa using hc
      subst this
      exact hpO pt hpt c (List.mem_filter.mp hc').1
    · rw [eqv_nil]
      show _ = badP pt
      unfold badP
      have b1 : decide (V.str pt = V.str "") = decide (pt = "") := decide_eq_decide.mpr ⟨fun z => by injection z, fun z => by rw [z]⟩
      have b2 : decide ((8 : Int) < (pt.length : Int)) = decide (8 < pt.length) := decide_eq_decide.mpr (by omega)
      rw [b1, b2]
      cases (pt.cps.toList.filter fun c => !decide (c ∈ alnum)) <;> rfl
  · rw [eqv_nil]
    unfold isLet
    cases parts.filter badP <;> rfl
  have hp12 := ((hp9.ex e10).ex e11).ex e12
  have ht12 := ((ht9.ext e10).ext e11).ext e12
  have hn12 := e12 _ _ (e11 _ _ (e10 _ _ hn9))
  have hq12 := e12 _ _ hq11
  -- heard(lambda: read_row(bent))
  refine q_neH (K := K) (q := p) (d := if isLet parts = true then .list [.tuple (parts.map PyData.str)] else .tuple [.str "text", .int 0, .int 0]) ht12 ?_ ?_ ?_ fun H13 x13 ht13 => ?_
  · cases isLet parts with
    | true => exact sh_one (n := 1) (SeqAt.canLay_of_shaped (sh_strsT hpO)) (by unfold PyData.depth; rw [(lay_strs hpO).2]) (by decide)
    | false => exact (by decide +kernel : SeqAt.shaped (.tuple [.str "text", .int 0, .int 0]) = true)
  · cases hil : isLet parts with
    | true => exact evh_some (fun H1 e => ea_cons (ev_var rfl) ea_nil) (fun H1 e Kn E r => ⟨_, _, rfl, .str _, sh_str hBO, fun s es => by cases es; omega, by rw [hrb, hil]; exact r⟩) fun _ => dp_strs _
    | false => exact evh_none (k := .text) (fs := [("line", .int 0), ("word", .int 0)]) (fun H1 e => ea_cons (ev_var rfl) ea_nil) (fun H1 e Kn E r => ⟨_, _, rfl, .str _, sh_str hBO, fun s es => by cases es; omega, by rw [hrb, hil]; exact r⟩) (by decide) (by kernel_rfl) fun _ => .cons (.str _) (.cons (.int _) (.cons (.int _) .nil))
  · intro H1 e1
    refine eq_if (b := isLet parts) (et_B (ev_var rfl)) (fun hb => ?_) (fun hb => ?_)
    · rw [hb]
      exact eq_lst (eqa_cons (eq_U (eu_tuple1 (ev_var rfl) (sq_of (e1 _ _ hq12 (fun _ z => by cases z)))) fun _ _ => dp_strs _) eqa_nil) (show 1 ≤ 100000 by decide)
    · rw [hb]
      exact eq_tup (eqa_cons eq_str (eqa_cons eq_int (eqa_cons eq_int eqa_nil))) (by decide)
  have hp13 := hp12.xn x13
  have hn13 := x13 _ _ hn12 (fun _ z => by cases z)
  -- bent bits
  refine q_drT2 (dr_draw (m := ((signsOf bs).length : Int) + 1) rfl (fun H1 g => ev_op (ev_lenS (ev_var rfl) hSz) ev_c rv_I0) (by omega) (by omega)) (dr_pickQ (os := odds.map fun s => some (.str s)) rfl (fun H1 _ => eqa_cons eq_str (eqa_cons eq_str (eqa_cons eq_str (eqa_cons eq_str (eqa_cons eq_str eqa_nil))))) (by decide) (by decide)) rfl hp13 (by omega) (fun y H1 H2 h _ => h) pick_st fun x y H14 hx hy g14 hp14 => ?_
  obtain ⟨j0, rfl, j1, j2⟩ := hx
  obtain ⟨od', hod, rfl⟩ := pick_str rfl hy
  obtain ⟨ho1, ho2, ho3⟩ := odds_ok od' hod
  obtain ⟨kv13, hk13⟩ := hp13.dk
  have ht14 := Tabs.gp ht13 hk13 g14
  have hn14 := g14.1 _ _ hn13 (fun _ z => by cases z) (fun _ z => by cases z)
  have hj3 : j0 ≤ ((signsOf bs).length : Int) := by omega
  have hcl2 := fun lo hi => cutS_length (signsOf bs) lo hi
  have hBl2 := bent_len (signsOf bs) od' j0 j1 hj3
  have hBO2 : Ok (bentS (signsOf bs) od' j0) := fun c hc => by
    rcases bent_in (signsOf bs) od' j0 j1 hj3 hc with z | z
    · exact hS1 c z
    · exact ok_of ho2 c z
  have hrb2 : readBits (.str (bentS (signsOf bs) od' j0)) = none := by
    obtain ⟨c, hc, hcb⟩ := List.any_eq_true.mp ho3
    exact readBits_none (by omega) (bent_has (signsOf bs) od' j0 j1 hj3 hc) (by simpa using hcb)
  refine q_neH (K := K) (q := p) (d := .tuple [.str "text", .int 0, .int 0]) ht14 (by decide +kernel) (evh_none (k := .text) (x := .str (bentS (signsOf bs) od' j0)) (fs := [("line", .int 0), ("word", .int 0)]) (fun H1 e => ea_cons (ev_addS (ev_addS (ev_slS (ev_var rfl) eo_none (eo_some (ev_var rfl)) hSz) (ev_var rfl) ?_) (ev_slS (ev_var rfl) (eo_some (ev_var rfl)) eo_none hSz) ?_) ea_nil) (fun H1 e Kn E r => ⟨_, _, rfl, .str _, sh_str hBO2, fun s es => by cases es; omega, by rw [hrb2]; exact r⟩) (by decide) (by kernel_rfl) fun _ => .cons (.str _) (.cons (.int _) (.cons (.int _) .nil)))
    (fun H1 e1 => eq_tup (eqa_cons eq_str (eqa_cons eq_int (eqa_cons eq_int eqa_nil))) (by decide)) fun H15 x15 ht15 => ?_
  · have := hcl2 none (some j0)
    exact Nat.le_trans (by omega : _ ≤ 4000) (by decide)
  · have h1 := hcl2 none (some j0)
    have h2 := hcl2 (some j0) none
    rw [len_app]
    exact Nat.le_trans (by omega : _ ≤ 6000) (by decide)
  have hp15 := hp14.xn x15
  have hn15 := x15 _ _ hn14 (fun _ z => by cases z)
  -- odd ones
  refine q_dr (dr_pickQ (os := oddsR) rfl (fun H1 hp => eqa_cons eq_non (eqa_cons eq_int (eqa_cons eq_str (eqa_cons (eq_lst (eqa_cons eq_str eqa_nil) (by decide)) (eqa_cons (eq_lst (eqa_cons eq_non eqa_nil) (by decide)) (eqa_cons (eq_tup (eqa_cons eq_str eqa_nil) (by decide)) (eqa_cons (eq_lst (eqa_cons (eq_tup (eqa_cons eq_str eqa_nil) (by decide)) eqa_nil) (by decide)) (eqa_cons (eq_lst (eqa_cons eq_str eqa_nil) (by decide)) (eqa_cons (eq_dict hp) (eqa_cons (eq_lst (eqa_cons eq_str eqa_nil) (by decide)) eqa_nil)))))))))) (by decide) (by decide)) hp15 (by omega) fun y1 H16 hy1 g16 hp16 => ?_
  obtain ⟨kv15, hk15⟩ := hp15.dk
  have ht16 := Tabs.gp ht15 hk15 g16
  have hn16 := g16.1 _ _ hn15 (fun _ z => by cases z) (fun _ z => by cases z)
  refine q_dr (dr_pickQ (os := oddsB) rfl (fun H1 hp => eqa_cons eq_non (eqa_cons eq_int (eqa_cons eq_str (eqa_cons (eq_lst (eqa_cons eq_int eqa_nil) (by decide)) (eqa_cons (eq_lst (eqa_cons eq_bl eqa_nil) (by decide)) (eqa_cons (eq_lst (eqa_cons eq_non eqa_nil) (by decide)) (eqa_cons (eq_tup (eqa_cons eq_str eqa_nil) (by decide)) (eqa_cons (eq_lst (eqa_cons (eq_lst (eqa_cons eq_int eqa_nil) (by decide)) eqa_nil) (by decide)) (eqa_cons (eq_dict hp) eqa_nil))))))))) (by decide) (by decide)) hp16 (by omega) fun y2 H17 hy2 g17 hp17 => ?_
  obtain ⟨kv16, hk16⟩ := hp16.dk
  have ht17 := Tabs.gp ht16 hk16 g17
  have hn17 := g17.1 _ _ hn16 (fun _ z => by cases z) (fun _ z => by cases z)
  obtain ⟨o1, ho1', hd1⟩ := pick_st y1 _ _ hy1 g17
  obtain ⟨o2, ho2', hd2⟩ := hy2
  refine q_neH (K := K) (q := p) (d := .list [.tuple [.str "value", .str "row"], .tuple [.str "value", .str "bits"]]) ht17 (by decide +kernel) (evh_lst2 (evh_none (k := .value) (x := y1) (fs := [("part", .str "row")]) (fun H1 e => ea_cons (ev_var rfl) ea_nil) (fun H1 e Kn E r => row_bad (oddsR_bad o1 ho1') (hd1.xn e) r) (by decide) (by kernel_rfl) fun _ => .cons (.str _) (.cons (.str _) .nil))
    (evh_none (k := .value) (x := y2) (fs := [("part", .str "bits")]) (fun H1 e => ea_cons (ev_var rfl) ea_nil) (fun H1 e Kn E r => bits_bad (oddsB_bad o2 ho2') (hd2.xn e) r) (by decide) (by kernel_rfl) fun _ => .cons (.str _) (.cons (.str _) .nil)))
    (fun H1 e1 => eq_lst (eqa_cons (eq_tup (eqa_cons eq_str (eqa_cons eq_str eqa_nil)) (by decide)) (eqa_cons (eq_tup (eqa_cons eq_str (eqa_cons eq_str eqa_nil)) (by decide)) eqa_nil)) (by decide)) fun H18 x18 ht18 => ?_
  have hp18 := hp17.xn x18
  have hn18 := x18 _ _ hn17 (fun _ z => by cases z)
  refine q_dr (dr_pickQ (os := nones.map some) rfl (fun H1 hp => eqa_cons eq_non (eqa_cons eq_int (eqa_cons (eq_tup (eqa_cons eq_str eqa_nil) (by decide)) (eqa_cons (eq_lst eqa_nil (by decide)) (eqa_cons eq_str eqa_nil))))) (by decide) (by decide)) hp18 (by omega) fun y3 H19 hy3 g19 hp19 => ?_
  obtain ⟨kv18, hk18⟩ := hp18.dk
  have ht19 := Tabs.gp ht18 hk18 g19
  have hn19 := g19.1 _ _ hn18 (fun _ z => by cases z) (fun _ z => by cases z)
  obtain ⟨o3, ho3', hd3⟩ := hy3
  obtain ⟨d3, hd3', rfl⟩ := List.mem_map.mp ho3'
  obtain ⟨r1, r2, r3, r4⟩ := nones_ok d3 hd3'
  have hd3x : ∀ H', ExtN H19 H' → Dp K H' y3 d3 := fun H' e => dp_gr (ExtN.gr e) _ hd3
  refine s_neH (K := K) (q := p) (d := .list [.tuple [.str "text", .int 0, .int 0], .tuple [.str "text", .int 0, .int 0]]) ht19 (by decide +kernel) (evh_lst2 (evh_none (k := .text) (x := y3) (fs := [("line", .int 0), ("word", .int 0)]) (fun H1 e => ea_cons (ev_var rfl) ea_nil) (fun H1 e Kn E r => ⟨_, _, rfl, hd3x _ e, r3, r4, by rw [r1]; exact r⟩) (by decide) (by kernel_rfl) fun _ => .cons (.str _) (.cons (.int _) (.cons (.int _) .nil)))
    (evh_none (k := .text) (x := y3) (fs := [("line", .int 0), ("word", .int 0)]) (fun H1 e => ea_cons (ev_var rfl) ea_nil) (fun H1 e Kn E r => ⟨_, _, rfl, hd3x _ e, r3, r4, by rw [r2]; exact r⟩) (by decide) (by kernel_rfl) fun _ => .cons (.str _) (.cons (.int _) (.cons (.int _) .nil))))
    (fun H1 e1 => eq_rep2 (eq_tup (eqa_cons eq_str (eqa_cons eq_int (eqa_cons eq_int eqa_nil))) (by decide))) fun H20 x20 ht20 => ?_
  exact ⟨⟨_, rfl, rfl⟩, x20 _ _ hn19 (fun _ z => by cases z), (hp19.xn x20).mono (by omega), ht20⟩
end
end K88
/-! ## K88End -/
set_option Elab.async false
set_option linter.all false
set_option maxRecDepth 100000
set_option maxHeartbeats 0
namespace K88
open PySem PySem.Spec PyProof.Rows L2 He Wh LamX
abbrev R : PySem.W.OpenRow := PySem.W.OpenLaw.row PySem.Challenge.rw_whoeversends_k88_texts_of_rows_and_bits
def dd (i : Nat) (x : Str) : DefD := ⟨(x, none), x, x, defArgs (top i), defBody (top i), defScope (top i), [], []⟩
def fns : List DefD := [dd 20 "is_integer", dd 21 "is_within", dd 22 "is_name", dd 23 "is_listed", dd 25 "row_text", dd 26 "read_row", dd 27 "bits_text", dd 28 "read_bits", dd 30 "_law_e_pen", dd 31 "_law_e_draw", dd 32 "_law_e_pick", dd 33 "_law_e_heard", dd 34 "law"]
def ks : List EK := [.value, .text]
def glF : List Fa := fns.map fun d => Fa.glo d.name
def csF : List Fa := [.str "LETTERS" "abcdefghijklmnopqrstuvwxyz", .str "FIGURES" "0123456789", .int "LONGEST" 8, .free "super"]
def ed (i : Nat) (x : Str) (fs : List Str) : ExD := ⟨x, x ++ ".__init__", fs, defArgs (inClass (top i) 0), defBody (inClass (top i) 0), defScope (inClass (top i) 0)⟩
def hd : HkD := ⟨heardFa ks ++ (bltFa ++ (glF ++ csF)), fns, [ed 2 "BadValue" ["part"], ed 14 "BadText" ["line", "word"]], heardKit ks, [("law", none)], "/claim/cut.py"⟩
abbrev hk : PySem.W.Hook := hookW 5 hd
def ob (s : PySem.W.SharedT) : AlW := obsW 5 hd (HandSHeadRun.getT s)
theorem ob_eq (s : PySem.W.SharedT) : ob s = hk.obs s.abs := obsW_eq (HandSHeadRun.getT_eq s)
def loose : List PySem.Str := ["SendError", "BadValue", "BadLine", "BadNumber", "BadRows", "BadRelation", "BadSender", "BadHearer", "BadPaper", "BadWord", "NoName", "Nothing", "Misfit", "BadText", "TooMany", "LETTERS", "FIGURES", "LONGEST", "is_integer", "is_within", "is_name", "is_listed", "row_text", "read_row", "bits_text", "read_bits", "_law_e_pen", "_law_e_draw", "_law_e_pick", "_law_e_heard"]
theorem run (w : World) : HandSHeadRun.RunEq R (PySem.W.view R.prog [34]) hk ob 40000 loose w := by
  intro os
  kernel_rfl
end K88
/-! ## K88Fin -/
set_option Elab.async false
set_option linter.all false
set_option maxRecDepth 100000
set_option maxHeartbeats 4000000
namespace K88
open PySem PySem.Spec PyProof.Rows L2 He Wh LamX
abbrev PP : Program := PySem.Challenge.pw_whoeversends_k88_texts_of_rows_and_bits
section
variable {w : World} {K : Fr'} {h : Heap} {mg : Str → Option Value} {f : Addr}
theorem def_at (c : SaysW hd h K) (i : Nat) {d : DefD} (e : fns[i]? = some d) : ∃ fd, FunD K d.name d.qual d.params d.body d.scope (d.dvs K) (d.kws K) (fAd K d.at_) fd := c.says.def_ i e
theorem glo_at (X : K.In h) (G : h.Ns mainGlobals mg) (c : SaysW hd h K) (d : DefD) (e : d ∈ fns) : mg d.name = some (.ref (ga K d.name)) :=
  glo_ok X G (c.says.facts (List.mem_append_right _ (List.mem_append_right _ (List.mem_append_left _ (List.mem_map.mpr ⟨d, e, rfl⟩)))))
theorem cs_at (c : SaysW hd h K) {x : Fa} (e : x ∈ csF) : x.ok K = true := c.says.facts (List.mem_append_right _ (List.mem_append_right _ (List.mem_append_right _ e)))
theorem e_value (X : K.In h) (G : h.Ns mainGlobals mg) (c : SaysW hd h K) (H : HeardK K mg ks) : Err1 PP K mg "BadValue" (EC K .value) "part" :=
  err1_of (prog := PP) (d := ed 2 "BadValue" ["part"]) (H.g .value) (c.exc _ (List.mem_cons_self ..)) (List.cons.inj c.ini).1 c.opq (free_ok X G (cs_at c (by simp [csF]))) (by decide +kernel) (by decide +kernel) rfl rfl rfl rfl ⟨fun _ => ⟨_, rfl⟩, fun _ => rfl⟩ (fun _ _ _ _ _ _ _ _ _ => rfl)
theorem e_text (X : K.In h) (G : h.Ns mainGlobals mg) (c : SaysW hd h K) (H : HeardK K mg ks) : Err2 PP K mg "BadText" (EC K .text) "line" "word" :=
  err2_of (prog := PP) (d := ed 14 "BadText" ["line", "word"]) (H.g .text) (c.exc _ (List.mem_cons_of_mem _ (List.mem_cons_self ..))) (List.cons.inj (List.cons.inj c.ini).2).1 c.opq (free_ok X G (cs_at c (by simp [csF]))) (by decide +kernel) (by decide +kernel) rfl rfl rfl rfl ⟨fun _ => ⟨_, rfl⟩, fun _ => rfl⟩ (fun _ _ _ _ _ _ _ _ _ _ => rfl) rfl rfl rfl rfl
abbrev Ca (w : World) (K : Fr') (mg : Str → Option Value) (base : Heap) (CX : CXT) (k : Nat) (x : Str) (ps : List Str) (sp : Sp) : Prop := Wh.Cal PP w K mg base CX k x ps sp
theorem cal_of {base : Heap} {CX : CXT} {k : Nat} {x : Str} {st : Stmt} {ps : List Str} {sp : Sp} {fd : FuncData} {g : Addr} (F : FnP K x st g fd) (hm : mg x = some (.ref g)) (ok : FnOk PP w K mg base CX k g fd ps sp) (b : Binds K fd ps []) : Wh.Cal PP w K mg base CX k x ps sp := ⟨g, fd, ok, hm, F.kp, b⟩
theorem calK_of {base : Heap} {CX : CXT} {k : Nat} {x : Str} {st : Stmt} {ps kk : List Str} {gV : {α : Type} → List α → List α} {sp : Sp} {fd : FuncData} {g : Addr} (F : FnP K x st g fd) (hm : mg x = some (.ref g)) (ok : FnOk PP w K mg base CX k g fd ps sp)
    (b : ∀ (s : Shared) (ws : List Value), ws.length = kk.length → BindsTo s fd ⟨[], kk.zip ws⟩ (ps.zip (gV ws))) : Wh.CalK PP w K mg base CX k x ps kk gV sp := ⟨g, fd, ok, hm, F.kp, b⟩
theorem law_at (X : K.In h) (G : h.Ns mainGlobals mg) (hfa : mg ("law" : Str) = some (.ref f)) (c : SaysW hd h K) : LawAtS PySem.Challenge.rw_whoeversends_k88_texts_of_rows_and_bits w K CXn 8 63 "script" mg f h := by
  have B : Blt mg := blt_of X G c fun x hx => List.mem_append_right _ (List.mem_append_left _ hx)
  have HK : HeardK K mg ks := heardK_of X G c ks B (fun x hx => List.mem_append_left _ hx) (fun p hp => hp) (by
    intro k hk
    rcases List.mem_cons.mp hk with rfl | hk
    · exact ⟨_, List.mem_cons_self .., rfl, rfl⟩
    · rcases List.mem_cons.mp hk with rfl | hk
      · exact ⟨_, List.mem_cons_of_mem _ (List.mem_cons_self ..), rfl, rfl⟩
      · cases hk)
  have cL := str_ok X G (cs_at c (x := .str "LETTERS" "abcdefghijklmnopqrstuvwxyz") (by simp [csF]))
  have cF := str_ok X G (cs_at c (x := .str "FIGURES" "0123456789") (by simp [csF]))
  have cO := int_ok X G (cs_at c (x := .int "LONGEST" 8) (by simp [csF]))
  have eV := e_value X G c HK
  have eT := e_text X G c HK
  obtain ⟨fd0, F0⟩ : ∃ fd, FnP K "is_integer" (top 20) (ga K "is_integer") fd := def_at c 0 (d := dd 20 "is_integer") rfl
  obtain ⟨fd1, F1⟩ : ∃ fd, FnP K "is_within" (top 21) (ga K "is_within") fd := def_at c 1 (d := dd 21 "is_within") rfl
  obtain ⟨fd2, F2⟩ : ∃ fd, FnP K "is_name" (top 22) (ga K "is_name") fd := def_at c 2 (d := dd 22 "is_name") rfl
  obtain ⟨fd3, F3⟩ : ∃ fd, FnP K "is_listed" (top 23) (ga K "is_listed") fd := def_at c 3 (d := dd 23 "is_listed") rfl
  obtain ⟨fd4, F4⟩ : ∃ fd, FnP K "row_text" (top 25) (ga K "row_text") fd := def_at c 4 (d := dd 25 "row_text") rfl
  obtain ⟨fd5, F5⟩ : ∃ fd, FnP K "read_row" (top 26) (ga K "read_row") fd := def_at c 5 (d := dd 26 "read_row") rfl
  obtain ⟨fd6, F6⟩ : ∃ fd, FnP K "bits_text" (top 27) (ga K "bits_text") fd := def_at c 6 (d := dd 27 "bits_text") rfl
  obtain ⟨fd7, F7⟩ : ∃ fd, FnP K "read_bits" (top 28) (ga K "read_bits") fd := def_at c 7 (d := dd 28 "read_bits") rfl
  obtain ⟨fd8, F8⟩ : ∃ fd, FnP K "_law_e_pen" (top 30) (ga K "_law_e_pen") fd := def_at c 8 (d := dd 30 "_law_e_pen") rfl
  obtain ⟨fd9, F9⟩ : ∃ fd, FnP K "_law_e_draw" (top 31) (ga K "_law_e_draw") fd := def_at c 9 (d := dd 31 "_law_e_draw") rfl
  obtain ⟨fd10, F10⟩ : ∃ fd, FnP K "_law_e_pick" (top 32) (ga K "_law_e_pick") fd := def_at c 10 (d := dd 32 "_law_e_pick") rfl
  obtain ⟨fd11, F11⟩ : ∃ fd, FnP K "_law_e_heard" (top 33) (ga K "_law_e_heard") fd := def_at c 11 (d := dd 33 "_law_e_heard") rfl
  obtain ⟨fd12, F12⟩ : ∃ fd, FnP K "law" (top 34) (ga K "law") fd := def_at c 12 (d := dd 34 "law") rfl
  have m := fun (i : Nat) (d : DefD) (e : fns[i]? = some d) => glo_at X G c d (List.mem_of_getElem? e)
  have m0 := m 0 _ rfl
  have m1 := m 1 _ rfl
  have m2 := m 2 _ rfl
  have m3 := m 3 _ rfl
  have m4 := m 4 _ rfl
  have m5 := m 5 _ rfl
  have m6 := m 6 _ rfl
  have m7 := m 7 _ rfl
  have m8 := m 8 _ rfl
  have m9 := m 9 _ rfl
  have m10 := m 10 _ rfl
  have m11 := m 11 _ rfl
  have m12 := m 12 _ rfl
  have efa : f = ga K "law" := by
    have := hfa.symm.trans m12
    injection this with z
    injection z
  subst efa
  have b1 : ∀ {x : Str} {st : Stmt} {g : Addr} {fd : FuncData} {ps : List Str} (F : FnP K x st g fd), (∀ (kV doc pm : Value) (an : Option Addr) (cdv ct : Value) (us : List Value), us.length = ps.length → bindArgs (PySem.W.fnOf x x (defArgs st) (defBody st) (defScope st) .none kV doc pm an cdv ct) ⟨us, []⟩ = pure (ps.zip us)) → Binds K fd ps [] := fun F hb => F.bindsN hb
  refine ⟨fd12, [cT K ("law", none)], spLaw K, fun p hp => ?_, fun p hp => ?_, fun p hp => ?_, fun s u => ?_, fun H a ns hn hbits hH hS => ?_, fun base KB GB TB => ?_⟩
  · rw [List.mem_singleton.mp hp]; exact c.empty ("law", none) (List.mem_singleton.mpr rfl)
  · rw [List.mem_singleton.mp hp]; exact c.out ("law", none) (List.mem_singleton.mpr rfl)
  · rw [List.mem_singleton.mp hp]; exact PySem.W.codeHd_of_K X (c.hd ("law", none) (List.mem_singleton.mpr rfl))
  · exact FunD.bindsA (ps := ["script"]) F12 (fun _ _ _ _ _ _ us hl => match us, hl with | [_], _ => rfl) s [u] rfl
  · refine ⟨a, ns, rfl, hS, by omega, fun p hp => ?_, fun _ => rfl⟩
    rw [List.mem_singleton.mp hp]
    exact TabS.nil (hH _ (List.mem_singleton.mpr rfl))
  · have Gint := cal_of F0 m0 (ok_is_integer (P := PP) (w := w) (base := base) F0 B) (b1 F0 fun _ _ _ _ _ _ us hl => match us, hl with | [_], _ => rfl)
    have Gwit := cal_of F1 m1 (ok_is_within F1 Gint) (b1 F1 fun _ _ _ _ _ _ us hl => match us, hl with | [_, _, _], _ => rfl)
    have Gnam := cal_of F2 m2 (ok_is_name (P := PP) (w := w) (base := base) F2 B cL cF cO) (b1 F2 fun _ _ _ _ _ _ us hl => match us, hl with | [_], _ => rfl)
    have Glis := cal_of F3 m3 (ok_is_listed (P := PP) (w := w) (base := base) F3 B) (b1 F3 fun _ _ _ _ _ _ us hl => match us, hl with | [_], _ => rfl)
    have Gdraw := cal_of F9 m9 (ok_draw (P := PP) (w := w) (base := base) F9 B) (b1 F9 fun _ _ _ _ _ _ us hl => match us, hl with | [_, _], _ => rfl)
    have o4 := ok_row_text F4 B Glis Gnam eV
    have o5 := ok_read_row F5 B Gnam eT
    have o6 := ok_bits_text F6 B Glis Gwit eV
    have o7 := ok_read_bits (P := PP) (w := w) (base := base) F7 B eT
    exact ok_law F12 B HK F11 m11 (TB _ (List.mem_singleton.mpr rfl))
      (cal_of F8 m8 (ok_pen F8 B) (b1 F8 fun _ _ _ _ _ _ us hl => match us, hl with | [_], _ => rfl)) Gdraw
      (cal_of F10 m10 (ok_pick F10 B Gdraw) (b1 F10 fun _ _ _ _ _ _ us hl => match us, hl with | [_, _], _ => rfl))
      (cal_of F4 m4 o4 (b1 F4 fun _ _ _ _ _ _ us hl => match us, hl with | [_], _ => rfl)) (cal_of F6 m6 o6 (b1 F6 fun _ _ _ _ _ _ us hl => match us, hl with | [_], _ => rfl))
      (cal_of F5 m5 o5 (b1 F5 fun _ _ _ _ _ _ us hl => match us, hl with | [_], _ => rfl)) (cal_of F7 m7 o7 (b1 F7 fun _ _ _ _ _ _ us hl => match us, hl with | [_], _ => rfl))
      (calK_of F4 m4 o4 (bindsKw (ps := ["row"]) (ks := ["row"]) (gV := fun {α} => id) F4 fun _ _ _ _ _ _ us hl => match us, hl with | [_], _ => rfl)) (calK_of F6 m6 o6 (bindsKw (ps := ["bits"]) (ks := ["bits"]) (gV := fun {α} => id) F6 fun _ _ _ _ _ _ us hl => match us, hl with | [_], _ => rfl))
      (calK_of F5 m5 o5 (bindsKw (ps := ["text"]) (ks := ["text"]) (gV := fun {α} => id) F5 fun _ _ _ _ _ _ us hl => match us, hl with | [_], _ => rfl)) (calK_of F7 m7 o7 (bindsKw (ps := ["text"]) (ks := ["text"]) (gV := fun {α} => id) F7 fun _ _ _ _ _ _ us hl => match us, hl with | [_], _ => rfl))
end
end K88
/-! ## K88Row -/
open PySem PySem.W PySem.Calls PyProof.Rows
set_option linter.all false
set_option maxRecDepth 100000
set_option maxHeartbeats 0
theorem PySem.Challenge.cw_whoeversends_k88_texts_of_rows_and_bits_holds : PySem.Challenge.rw_whoeversends_k88_texts_of_rows_and_bits.Holds := by
  w_on; o_law
  refine HandSHeadRun.head_any (r := OpenLaw.row PySem.Challenge.rw_whoeversends_k88_texts_of_rows_and_bits) (q := view (OpenLaw.row PySem.Challenge.rw_whoeversends_k88_texts_of_rows_and_bits).prog [34]) (H := K88.hk) (ob := K88.ob) (M := 40000) (loose := K88.loose) (d := HandSHeadRun.topDef (OpenLaw.row PySem.Challenge.rw_whoeversends_k88_texts_of_rows_and_bits).prog 34) (kwd := []) K88.ob_eq
    (by kernel_rfl) (fun s => by kernel_rfl) K88.run (by kernel_rfl) (by kernel_rfl) (by kernel_rfl) (by rfl) (by first | assumption | decide +kernel) (by decide +kernel) ⟨rfl, rfl, rfl, rfl, rfl, by decide +kernel⟩ ?hw ?hc
  case hw => w_witness2
  case hc =>
    refine LamX.walk_ofTsE (l := PySem.Challenge.rw_whoeversends_k88_texts_of_rows_and_bits) (n := 63) (k := 8) (x := "script") (CX := fun _ => K88.CXn) rfl (by decide) (by kernel_rfl) ⟨rfl, by decide, by decide⟩ ?F (fun _ _ _ _ _ z => z)
    intro w mg fa h Y G hmg0
    obtain ⟨K, KX, c⟩ := Y
    have hmg : mg ("law" : PySem.Str) = some (.ref fa) := by
      have e : (HandSHeadRun.topDef (OpenLaw.row PySem.Challenge.rw_whoeversends_k88_texts_of_rows_and_bits).prog 34).name = ("law" : PySem.Str) := by kernel_rfl
      rw [← e]
      exact hmg0
    exact ⟨K, KX, K88.law_at KX G hmg c⟩
