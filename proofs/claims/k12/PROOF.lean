import PyProof.Rows.All
import Wide.All
import OpenK.AllK
import Wide.FinOn
import PyProof.EqAt
import PyProof.EqKinds
import PyProof.TupleCall
import PyProof.FString
import KE.KExcSuper
import HandS.ForSpec
import HandS.Codes
import KE.KExcIs
import KE.KIsAll
import HandS.ExcField
import HandS.ExcIs
import HandS.TryMany
import KE.KStateDown
import HandS.Defaults
import HandS.Head0
import HandS.Head1
import HandS.Head2
import HandS.HeadEnd
import HandS.HeadHook2
import PyProof.StrBlock2
import HandS.ForMost
import HandS.Flow
import HandS.IsInst
import HandS.Wide
import HandS.Evl
import HandS.Comp
import PySem.Challenge.RW_lemmahall_k12_tokens_and_places
set_option Elab.async false
set_option linter.all false
set_option maxRecDepth 100000
set_option maxHeartbeats 4000000
/-! Exceptions of the program: classes over ValueError whose __init__ says super().__init__(text) and then stores its arguments. -/
namespace PySem
namespace HallX
open PySem.W PySem.Calls PyProof.Rows PySem.HandSPX
/-! ### the method-wrapper of ValueError.__init__ -/
section
variable {prog : Program} {w : World} {A : Around} {E : Value → Shared → Prop} {h : Heap} {g : Array GenState} {d : Drawn} {t : Nat} {os : OsState}
variable {nm q : Str} {C N : Addr} {bs bm : List Value} {sn : List Str} {sub : List Value} {ab : Bool} {col : Option Bool} {dd : Option Addr} {k0 k1 k2 k3 k5 : Option Value}
theorem call_bw {u e t0 : Addr} {rest : List Value} {Q : Value → Shared → Prop}
    (hC : h.get? C = some (excClassObj nm q C N bs bm true sn sub ab col dd k0 k1 k2 k3 k5 "ValueError.__new__")) (he : h.get? e = some (excO C t0)) (hu : h.get? u = some (kxs_mw "ValueError.__init__" e)) (hrest : rest.length ≤ sizeLine)
    (hq : ∀ h' t1, (∀ b o, b ≠ e → h.get? b = some o → h'.get? b = some o) → h'.get? e = some (excO C t1) → Q .none ⟨h', g, d, t, os⟩) :
    wpAny (model prog w) A (call (.ref u) rest) Q E ⟨h, g, d, t, os⟩ := by
  refine wpAny_call (codeAny_of_tree ?_)
  show wpAny _ A.in1 (callAny (.ref u) ⟨rest, []⟩) _ _ _
  simp only [callAny]
  refine wpAny_bind (wpAny_load hu ?_)
  simp only [kxs_mw, show (Value.type "method-wrapper" == Value.type "method" || Value.type "method-wrapper" == Value.type "builtin_function_or_method" || Value.type "method-wrapper" == Value.type "method-wrapper") = true by decide, if_true]
  refine KFB.if_so (by decide) ?_
  refine wpAny_bind (check_bound_init F.excBase_ValueError.toExcCallFacts hC he rfl ?_)
  refine wpAny_bind (wpAny_pure (wpAny_pure ?_))
  refine ⟨plainId_quiet F.excBase_ValueError.init.plain _, codeAny_builtin F.excBase_ValueError.initEntry ?_⟩
  exact exc_init_tree (cls := .ref C) (t0 := t0) (dv := none) (c2 := .none) (c3 := .none) (b4 := .bool false) he hrest fun h' k e' _ => hq h' h.objs.size k e'
end
/-! ### the class, as the top has written it -/
structure HallTxt (prog : Program) (K : Frag) (mg : Str → Option Value) (x : Str) (C fI cc cda : Addr) (qual : Str) (params : Arguments) (body : List Stmt) (scope : Scope) : Prop where
  gC : mg x = some (.ref C)
  cls : ∃ nm q N bs bm sn sub ab col dd k0 k1 k2 k3 k5, K.lookup C = some (excClassObj nm q C N bs bm true sn sub ab col dd k0 k1 k2 k3 k5 "ValueError.__new__") ∧ refsVE bm = true
  sup : ks_superIn K C C "__init__" = some (some (.builtin "ValueError.__init__"))
  sa : findIn K (.ref C) "__setattr__" = some (some (.builtin "object.__setattr__"))
  ga : findIn K (.ref C) "__getattribute__" = some (some (.builtin "BaseException.__getattribute__"))
  gg : findIn K (.ref C) "__getattr__" = some none
  iC : findIn K (.ref C) "__init__" = some (some (.ref fI))
  tI : typeIn K (.ref fI) = some (.type "function")
  kC : keepIn K (.ref C) = true
  exC : subIn K (.ref C) (.type "BaseException") = some true
  tyC : typeIn K (.ref C) = some (.type "type")
  hdC : hasDictIn K C = true
  ve : subIn K (.ref C) (.type "ValueError") = some true
  self : mroIn K C (.ref C) = some true
  fn : ∃ oc od dV kV doc pm an ct osl, K.lookup fI = some ⟨oc, od, .func (ksFn "__init__" qual params body scope dV kV doc pm an (.ref cda) ct cc), osl⟩ ∧ codeIn K (.ref cda) qual = true ∧ dV = Value.none
  code : ∃ ccl cdd vs ccs tf, K.lookup cda = some ⟨ccl, cdd, .fields vs, ccs⟩ ∧ vs[2]? = some (.str prog.main.file tf)
  cell : ∃ cl cld csl, K.lookup cc = some ⟨cl, cld, .cell (some (.ref C)), csl⟩
  stat : nsIn K cStatics "thirdparty.any" = some none
  sup0 : mg "super" = none
  top0 : (prog.main.scope.names.lookup ("super" : Str)).isSome = false
/-- a message: a text is made, nothing else happens -/
def MsgOk (prog : Program) (w : World) (env : Env) (L : Addr) (m : Str → Option Value) (e : Expr) : Prop :=
  ∀ (A : Around) (E : Value → Shared → Prop) (s : Shared) (Q : Value → Shared → Prop), s.heap.Ns L m → (∀ z tk tk', Q (.str z tk) { s with toks := tk' }) → wpAny (model prog w) A (eval e env) Q E s
section
variable {prog : Program} {w : World} {A : Around} {E : Value → Shared → Prop} {R : Result → Shared → Prop} {s : Shared} {K : Frag} {mg mb : Str → Option Value} {x : Str} {C fI cc cda : Addr} {qual : Str} {params : Arguments} {body : List Stmt} {scope : Scope}
theorem msg_const {env : Env} {L : Addr} {m : Str → Option Value} {z : Str} {j} {pos : Pos} : MsgOk prog w env L m (.Constant (.str z) j pos) := fun A E s Q _ h => Calls.Constant_str (h z _ _)
theorem ldv {env : Env} {L : Addr} {m : Str → Option Value} {y : Str} {pos : Pos} {v : Value} {Q : Value → Shared → Prop} (hn : s.heap.Ns L m) (hL : env.locals = L) (hv : m y = some v) (h : Q v s)
    (hk : env.scope.kind = .function) (hl : env.kindOf y = some .local) (hd : (y == ("__debug__" : Str)) = false) : wpAny (model prog w) A (eval (.Name y pos) env) Q E s := by
  subst hL
  exact wpAny_Name (wpAny_loadName_local hk hl hn hv h) hd
theorem evalEach_nil (env : Env) : evalEach [] env = [] := by first | rfl | simp [evalEach]
theorem evalEach_cons (e : Expr) (es : List Expr) (env : Env) : evalEach (e :: es) env = eval e env :: evalEach es env := by first | rfl | simp [evalEach]
/-- f"text{y}" -/
theorem msg_f2 {env : Env} {L : Addr} {m : Str → Option Value} {z y : Str} {j} {p1 p2 p3 pos : Pos} {i : Int} {ti : Tok} (hL : env.locals = L) (hv : m y = some (.int i ti)) (hi : i.natAbs.log2 < 1920) (hz : z.length + (toString i : Str).length ≤ sizeLine)
    (hk : env.scope.kind = .function) (hl : env.kindOf y = some .local) (hd : (y == ("__debug__" : Str)) = false) :
    MsgOk prog w env L m (.JoinedStr [.Constant (.str z) j p1, .FormattedValue (.Name y p2) (-1) none p3] pos) := fun A E s Q hn h => by
  refine wpAny_JoinedStr ?_
  rw [evalEach_cons, evalEach_cons, evalEach_nil]
  have e0 : (Str.empty ++ z) = z := by
    obtain ⟨a⟩ := z
    show (⟨#[] ++ a⟩ : Str) = ⟨a⟩
    simp
  refine Calls.Constant_str ⟨z, _, rfl, ?_, ?_⟩
  · rw [e0]; omega
  · rw [e0]
    refine wpAny_FormattedValue_plain (ldv (s := { s with toks := s.toks + 1 }) hn hL hv ?_ hk hl hd)
    refine wpAny_formatField_int hi ⟨_, _, rfl, ?_, ?_, ?_⟩
    · rw [Str.length_append]; exact hz
    · rw [Str.length_append]; exact hz
    · exact h _ _ _
/-- what super().__init__(msg) leaves -/
theorem super_init {pl : Sem Bool} {e t0 L : Addr} {m : Str → Option Value} {msg : Expr} {p0 p1 p2 p3 p4 : Pos} {Q : Flow → Shared → Prop} {ar : Arg} (T : HallTxt prog K mg x C fI cc cda qual params body scope)
    (X : K.In s.heap) (G : s.heap.Ns mainGlobals mg) (Gb : s.heap.Ns builtinsNs mb) (hb : mb "super" = some (.type "super")) (hn : s.heap.Ns L m) (he : s.heap.get? e = some (excO C t0)) (hne : K.lookup e = none)
    (har : (params.posonlyargs ++ params.args).head? = some ar) (hself : m ar.arg = some (.ref e))
    (hks : scope.names.lookup ("super" : Str) = some .globalImplicit) (hkc : scope.names.lookup ("__class__" : Str) = some .free) (hka : scope.names.lookup ar.arg = some .local) (hk : scope.kind = .function)
    (hm : MsgOk prog w (ksEnv qual scope L fI (.ref cda) cc) L m msg)
    (hst : starEach [msg] (ksEnv qual scope L fI (.ref cda) cc) = [(false, eval msg (ksEnv qual scope L fI (.ref cda) cc))])
    (hev : eval (.Call (.Attribute (.Call (.Name "super" p0) [] [] p1) "__init__" p2) [msg] [] p3) (ksEnv qual scope L fI (.ref cda) cc) = (do
      let ov ← attributeBase (.Call (.Name "super" p0) [] [] p1) "__init__" (ksEnv qual scope L fI (.ref cda) cc) (eval (.Call (.Name "super" p0) [] [] p1) (ksEnv qual scope L fI (.ref cda) cc))
      standAt p2.atName
      let (f, first) ← holding [ov] (getMethod ov "__init__" pl)
      callWith p3 f first (backTo p3 (starEach [msg] (ksEnv qual scope L fI (.ref cda) cc))) []))
    (hq : ∀ h' tk t1, (∀ b o, b ≠ e → s.heap.get? b = some o → h'.get? b = some o) → h'.get? e = some (excO C t1) → Q .next { s with heap := h', toks := tk }) :
    _root_.PySem.wpAt (model prog w) A (.func body (ksEnv qual scope L fI (.ref cda) cc)) (exec (.Expr (.Call (.Attribute (.Call (.Name "super" p0) [] [] p1) "__init__" p2) [msg] [] p3) p4) (ksEnv qual scope L fI (.ref cda) cc)) Q E s := by
  obtain ⟨hh, g, d, t, os⟩ := s
  obtain ⟨nm, q, N, bs, bm, sn, sub, ab, col, dd, k0, k1, k2, k3, k5, hC, hbm⟩ := T.cls
  obtain ⟨oc, od, dV, kV, doc, pm, an, ct, osl, hf, hcd, _⟩ := T.fn
  obtain ⟨ccl, cdd, vs, ccs, tf, hcode, hvs⟩ := T.code
  obtain ⟨cl, cld, csl, hcell⟩ := T.cell
  have hcl : clsIn K C = some { name := nm, bases := bs, mro := .ref C :: bm, ns := N, qualname := q, hasDict := true, slotNames := sn, subclasses := sub, abstract := ab, collection := col, hasDel := false } := by unfold clsIn; rw [hC] <;> rfl
  have eC : e ≠ C := fun z => by rw [z, hC] at hne; cases hne
  have hint : interactive (ksEnv qual scope L fI (.ref cda) cc) = false := by
    show (scope.kind == .module && _) = false
    rw [hk] <;> rfl
  refine ks_wpAt_Expr_any (ks_wpAt_MethodCall (pl := pl) ?_ hev) hint rfl
  · refine ks_wpAt_super_base (env := ksEnv qual scope L fI (.ref cda) cc) hks hkc (by decide) rfl (X _ _ hf) rfl har rfl (X _ _ hcode) rfl hvs (by simp) T.top0 ?_
    refine ks_loadName_global hk hks (loadGlobal_builtin (env := ksEnv qual scope L fI (.ref cda) cc) G T.sup0 Gb hb ⟨rfl, ?_⟩)
    refine wpAny_loadName_free hk hkc rfl ⟨_, X _ _ hcell, rfl⟩ ?_
    refine wpAny_loadName_local hk hka hn hself ?_
    refine ks_wpAny_isType_cls (X _ _ hC) rfl ⟨rfl, ?_⟩
    refine ks_wpAny_call_super (X _ _ hC) rfl he rfl (fun c z => by cases z) (looks_mroIn X T.self) (fun h1 hso k1' => ?_)
    have X1 : K.In h1 := X.keeps k1'
    have he1 := k1' _ _ he
    have hmro : Looks (model prog w) h1 (mroOf (.ref C)) (.ref C :: bm) := fun A Q E s k q => wpAny_bind ((looks_clsIn X1 hcl) A _ E s k (wpAny_pure q))
    have hsup : alongIn K "__init__" (((Value.ref C :: bm).dropWhile (· != .ref C)).drop 1) = some (some (.builtin "ValueError.__init__")) := by
      have z := T.sup
      unfold ks_superIn at z
      rw [hcl] at z
      exact z
    have I1 : InstAt h1 e (excO C t0) C none := ⟨he1, rfl, rfl, trivial⟩
    refine kxs_getMethod kxs_ValueError hso (looks_opaque X1 T.stat) hmro rfl X1 hsup (I1.type.andThen (looks_subIn X1 T.ve)) eC (by decide) ?_
    have hu : (h1.push (kxs_mw "ValueError.__init__" e)).get? h1.objs.size = some (kxs_mw "ValueError.__init__" e) := Heap.get?_push_at rfl rfl
    have k2' : ∀ b o, hh.get? b = some o → (h1.push (kxs_mw "ValueError.__init__" e)).get? b = some o := fun b o z => Heap.get?_push_of_some _ (k1' b o z)
    refine kxs_callWith (i := "ValueError.__init__") (x := e) (by rw [hst] <;> rfl) ?_
    rw [hst]
    refine evalArgs_plain ?_
    show wpAny _ _ (spliced [(false, eval msg (ksEnv qual scope L fI (.ref cda) cc))]) _ _ _
    refine Calls.spliced_cons (hm _ _ ⟨h1.push (kxs_mw "ValueError.__init__" e), g, d, t + 1, os⟩ _ (hn.keeps k2') (fun z tk tk' => ?_))
    refine Calls.spliced_nil ⟨hu, ?_⟩
    refine call_bw (X1.keeps (fun b o z => Heap.get?_push_of_some _ z) _ _ hC) (k2' _ _ he) hu (by show 1 ≤ sizeLine; rw [sizeLine_eq]; decide) (fun h' t1 k3' e' => ?_)
    exact hq h' _ t1 (fun b o hbe ho => k3' b o hbe (k2' b o ho)) e'
/-- what __init__ leaves of a fresh exception at e -/
structure InitEnd (h h' : Heap) (e C dx : Addr) (y : Str) (v : Value) : Prop where
  keep : ∀ b o, b ≠ e → h.get? b = some o → h'.get? b = some o
  obj : ∃ t1, h'.get? e = some { cls := .ref C, dict := some dx, data := .fields #[.ref t1, .none, .none, .none, .bool false, .none] }
  dbig : h.objs.size ≤ dx
  dne : dx ≠ e
  ns : h'.Ns1 dx (fun z => if z = y then some v else none)
/-- a made exception -/
structure OwnMade (h h' : Heap) (e C d : Addr) (y : Str) (v : Value) : Prop where
  keep : ∀ b o, h.get? b = some o → h'.get? b = some o
  new : h.objs.size ≤ e
  obj : ∃ oe vs, h'.get? e = some oe ∧ oe.cls = .ref C ∧ oe.dict = some d ∧ oe.data = .fields vs ∧ vs[1]? = some .none
  dbig : h.objs.size ≤ d
  dne : d ≠ e
  ns : h'.Ns1 d (fun z => if z = y then some v else none)
/-- __init__(self, y): super().__init__(msg); self.y = y -/
structure Init1 (prog : Program) (w : World) (y : Str) (ok : Value → Prop) (qual : Str) (params : Arguments) (body : List Stmt) (scope : Scope) : Prop where
  head : ∃ a1 : Arg, a1.arg = "self" ∧ (params.posonlyargs ++ params.args).head? = some a1
  bind : ∀ (kV doc pm : Value) (an : Option Addr) (cdv ct : Value) (cc : Addr) (u v : Value), bindArgs (ksFn "__init__" qual params body scope .none kV doc pm an cdv ct cc) ⟨[u, v], []⟩ = pure [(("self" : Str), u), (y, v)]
  bd : ∃ (p0 p1 p2 p3 p4 q1 q2 q3 q4 : Pos) (msg : Expr) (pl : Sem Bool), body = [.Expr (.Call (.Attribute (.Call (.Name "super" p0) [] [] p1) "__init__" p2) [msg] [] p3) p4, .Assign [.Attribute (.Name "self" q1) y q2] (.Name y q3) q4] ∧
    (∀ (L fI cc : Addr) (cd : Value) (m : Str → Option Value) (v : Value), m y = some v → ok v → MsgOk prog w (ksEnv qual scope L fI cd cc) L m msg) ∧
    (∀ (env : Env), env.scope = scope → starEach [msg] env = [(false, eval msg env)]) ∧
    (∀ (env : Env), env.scope = scope → eval (.Call (.Attribute (.Call (.Name "super" p0) [] [] p1) "__init__" p2) [msg] [] p3) env = (do
      let ov ← attributeBase (.Call (.Name "super" p0) [] [] p1) "__init__" env (eval (.Call (.Name "super" p0) [] [] p1) env)
      standAt p2.atName
      let (f, first) ← holding [ov] (getMethod ov "__init__" pl)
      callWith p3 f first (backTo p3 (starEach [msg] env)) []))
  hys : (y == ("self" : Str)) = false
  hyd : (y == ("__debug__" : Str)) = false
  hks : scope.names.lookup ("super" : Str) = some .globalImplicit
  hkc : scope.names.lookup ("__class__" : Str) = some .free
  hka : scope.names.lookup ("self" : Str) = some .local
  hky : scope.names.lookup y = some .local
  hk : scope.kind = .function
  hco : scope.isCoroutine = false
  hgen : scope.isGenerator = false
  hcell : ∀ x ∈ scope.names, x.2 ≠ .cell
theorem hall_init {e t0 : Addr} {v : Value} {y : Str} {ok : Value → Prop} (T : HallTxt prog K mg x C fI cc cda qual params body scope) (I : Init1 prog w y ok qual params body scope) (no : findIn K (.ref C) y = some none)
    (X : K.In s.heap) (G : s.heap.Ns mainGlobals mg) (Gb : s.heap.Ns builtinsNs mb) (hb : mb "super" = some (.type "super")) (hlim : s.heap.NoLimit) (he : s.heap.get? e = some (excO C t0)) (hne : K.lookup e = none)
    (hroom : A.depth < recursionLimit) (hv : ok v)
    (hq : ∀ h' tk dx, InitEnd s.heap h' e C dx y v → R (.ok (.ret .none)) { s with heap := h', toks := tk }) :
    codeAny (model prog w) A (.call (.ref fI) ⟨[.ref e, v], []⟩) R s := by
  obtain ⟨nm, q, N, bs, bm, sn, sub, ab, col, dd, k0, k1, k2, k3, k5, hC, hbm⟩ := T.cls
  obtain ⟨oc, od, dV, kV, doc, pm, an, ct, osl, hf, hcd, hdv⟩ := T.fn
  obtain ⟨p0, p1, p2, p3, p4, q1, q2, q3, q4, msg, pl, rfl, hm, hst, hev⟩ := I.bd
  have hcl : clsIn K C = some { name := nm, bases := bs, mro := .ref C :: bm, ns := N, qualname := q, hasDict := true, slotNames := sn, subclasses := sub, abstract := ab, collection := col, hasDel := false } := by unfold clsIn; rw [hC] <;> rfl
  refine ks_codeAny_call_defAt (body := _) (binds := [(("self" : Str), .ref e), (y, v)]) hroom (X _ _ hf) rfl hlim (codeRec_of X hcd) rfl (by subst hdv; exact BindsTo.of_eq (I.bind _ _ _ _ _ _ _ _ _)) I.hcell (fun z hz => ?_) (fun h₁ hns hk₁ => ?_) I.hco I.hgen I.hk
  · rcases List.mem_cons.mp hz with rfl | hz
    · exact I.hka
    rcases List.mem_cons.mp hz with rfl | hz
    · exact I.hky
    · cases hz
  · show _root_.PySem.wpAt (model prog w) _ (.func _ (ksEnv qual scope s.heap.objs.size fI (.ref cda) cc)) (execs _ (ksEnv qual scope s.heap.objs.size fI (.ref cda) cc)) _ _ _
    have my : (fun z => ([(("self" : Str), Value.ref e), (y, v)] : List (Str × Value)).reverse.lookup z) y = some v := by
      show List.lookup y ([(y, v), (("self" : Str), Value.ref e)] : List (Str × Value)) = some v
      simp [List.lookup]
    have ms : (fun z => ([(("self" : Str), Value.ref e), (y, v)] : List (Str × Value)).reverse.lookup z) "self" = some (.ref e) := by
      show List.lookup ("self" : Str) ([(y, v), (("self" : Str), Value.ref e)] : List (Str × Value)) = some (.ref e)
      have z : (("self" : Str) == y) = false := by
        have z := I.hys
        rw [beq_eq_false_iff_ne] at z ⊢
        exact fun w => z w.symm
      simp [List.lookup, z]
    have eL : s.heap.objs.size ≠ e := Nat.ne_of_gt (Heap.lt_size he)
    obtain ⟨a1, ha1, hpar⟩ := I.head
    refine ks_wpAt_execs_cons (super_init (t0 := t0) (mb := mb) (pl := pl) (ar := a1) T (X.keeps hk₁) (G.keeps hk₁) (Gb.keeps hk₁) hb hns (hk₁ _ _ he) hne hpar (by rw [ha1]; exact ms) I.hks I.hkc (by rw [ha1]; exact I.hka) I.hk
      (hm _ _ _ _ _ v my hv) (hst _ rfl) (hev _ rfl) (fun h' tk t1 k' e' => ?_))
    have X' : K.In h' := fun a o z => by
      have hae : a ≠ e := fun w => by rw [w, hne] at z; cases z
      exact k' a o hae (hk₁ _ _ (X a o z))
    have hns' : h'.Ns s.heap.objs.size (fun z => ([(("self" : Str), Value.ref e), (y, v)] : List (Str × Value)).reverse.lookup z) := hns.at fun o z => k' _ o eL z
    refine _root_.PySem.wpAt_of_wpAny ?_
    show wpAny _ _ (execs [_] _) _ _ _
    refine wpAny_execs_cons (plainObj_wpAny_Assign_Attribute ?_)
    refine ldv hns' rfl my (ldv hns' rfl ms ?_ I.hk I.hka (by decide)) I.hk I.hky I.hyd
    refine set_plain X' (ox := excO C t1) (od := none) ⟨e', rfl, rfl, trivial⟩ T.sa ?_
    refine exc_osa X' e' hcl (show refsVE (.ref C :: bm) = true from hbm) rfl no (fun h₃ tk₃ dx k₃ dn dne hx₃ hn₃ => ?_)
    show wpAny _ _ (execs _ _) _ _ _
    have z : s.heap.objs.size ≤ dx := by
      have z1 : s.heap.objs.size < h'.objs.size := hns'.lt
      have z2 : h'.objs.size ≤ dx := dn
      exact Nat.le_of_lt (Nat.lt_of_lt_of_le z1 z2)
    exact wpAny_execs_nil (hq h₃ tk₃ dx ⟨fun b o hbe z => k₃ b o hbe (k' b o hbe (hk₁ b o z)), ⟨t1, hx₃⟩, z, dne, hn₃⟩)
theorem hall_made {v : Value} {y : Str} {ok : Value → Prop} (T : HallTxt prog K mg x C fI cc cda qual params body scope) (I : Init1 prog w y ok qual params body scope) (no : findIn K (.ref C) y = some none)
    (X : K.In s.heap) (G : s.heap.Ns mainGlobals mg) (Gb : s.heap.Ns builtinsNs mb) (hb : mb "super" = some (.type "super")) (hlim : s.heap.NoLimit) (hroom : A.depth + 1 < recursionLimit) (hv : ok v)
    (hq : ∀ h' tk e d, OwnMade s.heap h' e C d y v → R (.ok (.ret (.ref e))) { s with heap := h', toks := tk }) :
    codeAny (model prog w) A (.call (.ref C) ⟨[v], []⟩) R s := by
  obtain ⟨nm, q, N, bs, bm, sn, sub, ab, col, dd, k0, k1, k2, k3, k5, hC, hbm⟩ := T.cls
  obtain ⟨hp, g, dr, tk, os⟩ := s
  have k : ∀ b o, hp.get? b = some o → ((hp.push (kdv_tup [v])).push (excO C hp.objs.size)).get? b = some o := fun b o e => Heap.get?_push_of_some _ (Heap.get?_push_of_some _ e)
  have hget : ((hp.push (kdv_tup [v])).push (excO C hp.objs.size)).get? (hp.objs.size + 1) = some (excO C hp.objs.size) := by heap_get
  have hnx : K.lookup (hp.objs.size + 1) = none := by
    cases e : K.lookup (hp.objs.size + 1) with
    | none => rfl
    | some o =>
      have z : hp.get? (hp.objs.size + 1) = some o := X _ _ e
      exact absurd (Nat.lt_of_succ_lt (Heap.lt_size z)) (Nat.lt_irrefl _)
  refine call_own F.excBase_ValueError (fun X => refsVE_contains X bm hbm) (X _ _ hC) (looks_findIn X T.iC) (fun self => bind_fn X self T.tI) (by show 1 ≤ sizeLine; rw [sizeLine_eq]; decide) ?_
  refine hall_init (s := ⟨(hp.push (kdv_tup [v])).push (excO C hp.objs.size), g, dr, tk, os⟩) T I no (X.keeps k) (G.keeps k) (Gb.keeps k) hb (hlim.keeps k) hget hnx ?_ hv fun h' tk' dx ⟨k', hx, dn, dne, hns⟩ => ?_
  · show A.depth + 1 < recursionLimit
    exact hroom
  · have old : ∀ b o, hp.get? b = some o → h'.get? b = some o := fun b o e => k' b o (Nat.ne_of_lt (Nat.lt_succ_of_lt (Heap.lt_size e))) (k b o e)
    have z : hp.objs.size + 1 + 1 ≤ dx := by
      first
        | (simpa only [Heap.size_push] using dn)
        | exact dn
        | (have q := dn; rw [Heap.size_push, Heap.size_push] at q; exact q)
    obtain ⟨t1, hx⟩ := hx
    exact ⟨rfl, hq h' tk' (hp.objs.size + 1) dx ⟨old, Nat.le_succ _, ⟨_, _, hx, rfl, rfl, rfl, rfl⟩, Nat.le_trans (Nat.le_trans (Nat.le_succ _) (Nat.le_succ _)) z, dne, hns⟩⟩
end
end HallX
end PySem
namespace L2
open PySem PySem.Spec PyProof.Rows PySem.HallX
theorem relO_one {v : V} {v' : Value} (r : RelV v v') (y f : Str) : RelO (List.lookup f [(y, v)]) (if f = y then some v' else none) := by
  by_cases hw : f = y
  · subst hw
    rw [if_pos rfl]
    have q : List.lookup f [(f, v)] = some v := by simp [List.lookup]
    rw [q]
    exact r
  · rw [if_neg hw]
    have qw : (f == y) = false := by simpa using hw
    have q2 : List.lookup f [(y, v)] = none := by simp [List.lookup, qw]
    rw [q2]
    trivial
theorem boot_super : bootBuiltins "super" = some (.type "super") := by first | rfl | kernel_rfl | decide +kernel
section
variable {X : Cx} {x y qual : Str} {C fI cc cda : Addr} {params : Arguments} {body : List Stmt} {scope : Scope}
/-- C(e) -/
def tMkH (C : Addr) (y : Str) (okV : V → Prop) (ta : TA) : St → Hp → XK → Prop := fun σ H Q => ta σ H fun vs H1 => ∃ v, vs = [v] ∧ okV v ∧ ∀ d, H1 d = none → Q (.ref C) (some d) (upd H1 d (.xd [(y, v)]))
theorem pmk_hall {a : Expr} {ta : TA} {p pos : Pos} {k : Nat} {ok : Value → Prop} {okV : V → Prop} (T : HallTxt X.prog X.K X.mg x C fI cc cda qual params body scope) (J : Init1 X.prog X.w y ok qual params body scope) (no : PySem.W.findIn X.K (.ref C) y = some none)
    (hok : ∀ v u, RelV v u → okV v → ok u) (hr : Room k X.A) (ha : PA X [a] ta) (hg : Gl X x) (hd : (x == ("__debug__" : Str)) = false := by decide)
    (he : starEach (a :: []) X.env = (false, eval a X.env) :: starEach [] X.env := by rfl) (hpl : (backTo pos (starEach [] X.env)).any (·.1) = false := by rfl) :
    PMk X (.Call (.Name x p) [a] [] pos) (tMkH C y okV ta) := by
  intro pins s σ H Q I h
  refine wpAny_Call_Name_kw (ld_glob I hg T.gC ?_ hd)
  refine PySem.W.callWith_K (h₀ := X.base) I.ok.mod.kin T.kC (thn (ha.run pos pins s σ H _ I h) fun us s1 hh => ?_) he hpl
  obtain ⟨vs, H1, I1, r1, v, ev, hov, q1⟩ := hh
  subst ev
  refine ⟨I1.kIn, ?_⟩
  cases r1 with
  | cons rv rn =>
    rename_i v' us'
    cases rn
    show wpAny _ _ (call (.ref C) [v']) _ _ _
    have hlim := I1.nolimit
    obtain ⟨mb, hb1, hb2⟩ := I1.mod.blt
    have G := I1.mod.glob.keeps I1.bk
    have Gb := hb1.keeps I1.bk
    have hb : mb "super" = some (.type "super") := (hb2 "super" (by decide)).trans boot_super
    have hkin := I1.kIn
    obtain ⟨hp, g, dr, tk, os⟩ := s1
    refine wpAny_call (hall_made (mb := mb) T J no hkin G Gb hb hlim (by have := hr.dp; omega) (hok _ _ rv hov) fun h' tk' e d M => ?_)
    show MkP X pins σ Q (.ref e) ⟨h', g, dr, tk', os⟩
    obtain ⟨oe, fv, hoe, hc, hd, hdat, h1⟩ := M.obj
    have hns := M.ns
    obtain ⟨G', g1, g2⟩ := restrict h' fun b => decide (b ≠ e)
    have gk : ∀ b, b ≠ e → G'.get? b = h'.get? b := fun b hb => g1 b (decide_eq_true hb)
    have ge : G'.get? e = none := g2 e (by simp)
    have old : ∀ b o, hp.get? b = some o → G'.get? b = some o := fun b o q => (gk b (Nat.ne_of_lt (Nat.lt_of_lt_of_le (Heap.lt_size q) M.new))).trans (M.keep b o q)
    have ob : ObjOk X.prog X.w (upd H1 d (.xd [(y, v)])) G' d (.xd [(y, v)]) :=
      ⟨_, hns.at (fun o q => (gk d M.dne).trans q), fun f => relO_one rv y f⟩
    have J : Inv X pins σ (upd H1 d (.xd [(y, v)])) ⟨G', g, dr, tk', os⟩ := I1.laid (t' := tk') old M.dbig ob
    refine ⟨e, oe, fv, ⟨G', g, dr, tk', os⟩, _, .ref C, some d, rfl, J, fun b o q => ?_, ge, hoe, ⟨hc, hd⟩, hdat, h1, ?_, rfl, I1.bare, raises_own T.exC T.tyC, q1 d (I1.hok.fresh M.dbig)⟩
    · by_cases hb : b = e
      · have q' : G'.get? b = some o := q
        rw [hb, ge] at q'; cases q'
      · exact (gk b hb).symm.trans q
    · rw [upd_ne (Ne.symm M.dne)]
      exact I1.hok.fresh M.new
/-- raise C(e) -/
def tRaiseH (C : Addr) (y : Str) (okV : V → Prop) (W : WX) (ta : TA) : TS := fun _ σ H => tMkH C y okV ta σ H fun cls d H' => W cls d σ H'
theorem ps_raiseH {a : Expr} {ta : TA} {W : WX} {p pos pos2 : Pos} {k : Nat} {ok : Value → Prop} {okV : V → Prop} (hc : X.calm = true) (T : HallTxt X.prog X.K X.mg x C fI cc cda qual params body scope) (J : Init1 X.prog X.w y ok qual params body scope) (no : PySem.W.findIn X.K (.ref C) y = some none)
    (hok : ∀ v u, RelV v u → okV v → ok u) (hr : Room k X.A) (tk : Takes X W) (ha : PA X [a] ta) (hg : Gl X x) (hd : (x == ("__debug__" : Str)) = false := by decide)
    (he : starEach (a :: []) X.env = (false, eval a X.env) :: starEach [] X.env := by rfl) (hpl : (backTo pos (starEach [] X.env)).any (·.1) = false := by rfl) :
    PS X (.Raise (some (.Call (.Name x p) [a] [] pos)) none pos2) (tRaiseH C y okV W ta) := ps_raise hc tk (pmk_hall T J no hok hr ha hg hd he hpl)
end
end L2

/-! several except clauses, with and without a name; isinstance of a caught error that has its dict -/
namespace L2
open PySem PySem.Spec PyProof.Rows
abbrev Clz : Type := Value × Option Nat × (Addr → Value → Option Addr → TS)
/-- behind a suite the name is unbound -/
def endsAs (i : Nat) (D : Ends) : Ends := { nx := fun σ H => D.nx (σ.set i none) H, rt := D.rt, bk := fun σ H => D.bk (σ.set i none) H, ct := fun σ H => D.ct (σ.set i none) H }
def wManyA (K : PySem.W.Frag) (Wout : WX) (D : Ends) : List Clz → WX
  | [] => Wout
  | (c, none, ts) :: r => fun cls d σ H => ∃ b, PySem.W.exmOne K cls c = some b ∧ (b = true → ∀ a, H a = none → ts a cls d D σ H) ∧ (b = false → wManyA K Wout D r cls d σ H)
  | (c, some i, ts) :: r => fun cls d σ H => ∃ b, PySem.W.exmOne K cls c = some b ∧ (b = true → ∀ a, H a = none → ts a cls d (endsAs i D) (σ.set i (some (.ref a))) H) ∧ (b = false → wManyA K Wout D r cls d σ H)
inductive HdsA (X : Cx) : List ExceptHandler → List Clz → Prop
  | nil : HdsA X [] []
  | bare {x : Str} {c : Value} {ts : Addr → Value → Option Addr → TS} {b₀ : Stmt} {suite : List Stmt} {np pos' : Pos} {hds : List ExceptHandler} {l : List Clz} (hc : Names X x c)
      (hsu : ∀ (a : Addr) (oe : Obj) (cls : Value) (d : Option Addr) (pn : List (Addr × Obj)), Zc cls d oe → (∃ vs, oe.data = .fields vs) → PSs (X.suite a ((a, oe) :: pn)) (b₀ :: suite) (ts a cls d)) (r : HdsA X hds l) :
      HdsA X (.ExceptHandler (some (.Name x np)) none (b₀ :: suite) pos' :: hds) ((c, none, ts) :: l)
  | as_ {x n : Str} {i : Nat} {c : Value} {ts : Addr → Value → Option Addr → TS} {b₀ : Stmt} {suite : List Stmt} {np pos' : Pos} {hds : List ExceptHandler} {l : List Clz} (hN : X.N.Nodup) (hi : X.N[i]? = some n) (hln : X.env.kindOf n = some .local) (hc : Names X x c)
      (hsu : ∀ (a : Addr) (oe : Obj) (cls : Value) (d : Option Addr) (pn : List (Addr × Obj)), Zc cls d oe → (∃ vs, oe.data = .fields vs) → PSs (X.suite a ((a, oe) :: pn)) (b₀ :: suite) (ts a cls d)) (r : HdsA X hds l) :
      HdsA X (.ExceptHandler (some (.Name x np)) (some n) (b₀ :: suite) pos' :: hds) ((c, some i, ts) :: l)
section
variable {X : Cx} {body : List Stmt} {h₀ : ExceptHandler} {hds : List ExceptHandler} {l : List Clz} {pos : Pos} {tb : WX → TS} {Wout : WX}
theorem ps_try_manyA (hs : X.stack = X.env :: X.outer) (hf : X.env.frame = some X.env.locals) (tk : Takes X Wout)
    (hb : ∀ (W : WX) (pn : List (Addr × Obj)) (xe : Value → Shared → Prop), Takes (X.tr pn xe) W → PassesOwn (model X.prog X.w) X.A X.env xe → PSs (X.tr pn xe) body (tb W))
    (hh : HdsA X (h₀ :: hds) l) : PS X (.Try body (h₀ :: hds) [] [] pos) (fun D σ H => tb (wManyA X.K Wout D l) D σ H) := by
  refine ⟨fun pins s σ H D I h => ?_⟩
  have ok := I.ok
  have hfr : X.A.frames = some (X.env :: X.outer) := by rw [ok.frames, hs]
  refine wpAny_Try_except ?_
  refine wpAny_mono ((hb (wManyA X.K Wout D l) (X.pn ++ pins) (fun e s₁ => wpAny (model X.prog X.w) X.A (noteFrame e X.env) (fun _ s₂ => wpAny (model X.prog X.w) X.A (setFlight e none) (fun _ s₃ =>
    wpAny (model X.prog X.w) X.A (handleBy e X.env (h₀ :: hds)) (SP X pins D) X.xe s₃) X.xe s₂) X.xe s₁) (fun u s' xx => ?_) PassesOwn.looking).run [] s σ H D (I.toTry _) h) (fun f s1 hsp => ?_) (fun e s1 he => he)
  · obtain ⟨a, B, sI, pins', σ', H', cls, d, rfl, J', nb, up, sky, na, os, ag, w⟩ := xx
    have J : Inv X pins σ' H' sI := J'.ofTry ok
    have sky' : Sky B (X.env :: X.outer) a (Zc cls d) X.env.locals s'.heap := by rw [← hs]; exact sky
    show wpAny (model X.prog X.w) X.A (noteFrame (.ref a) X.env) _ _ _
    refine Sky.land Zc.steady hfr hf sky' fun h3 fl3 up3 => ?_
    have J3 : Inv X pins σ' H' { s' with heap := h3 } := J.landed nb fl3.1 (up.trans up3) os ag
    obtain ⟨oe3, vs3, he3, hz3, hd3⟩ := fl3.there
    have notFr : ∀ {h : Heap} {o : Obj} {vs : Array Value}, h.FunFrames B (X.env :: X.outer) → h.get? a = some o → o.data = .fields vs → a ∉ frs (X.env :: X.outer) := fun {h o vs} ff e dd hm => by
      obtain ⟨_, o', e', hnf⟩ := ff.mem hm
      rw [e] at e'; cases e'
      exact hnf _ dd
    have nfr := notFr fl3.2.2.1 he3 hd3
    have nL : a ≠ X.env.locals := fun z => nfr (List.mem_filterMap.mpr ⟨X.env, List.mem_cons_self, by rw [hf, z]⟩)
    have nF : a ∉ X.fs := fun hm => by
      obtain ⟨e, he, q⟩ := List.mem_filterMap.mp hm
      exact nfr (List.mem_filterMap.mpr ⟨e, List.mem_cons_of_mem _ he, q⟩)
    have S3 := J3.suite he3 hd3 na nL nF
    have LT : PySem.W.Looks (model X.prog X.w) h3 (typeOf (.ref a)) cls := fun A Q E s k q => wpAny_typeOf_ref (k _ _ he3) (by rw [hz3.1]; exact q)
    have test : ∀ {x : Str} {c : Value} {np : Pos} (hc : Names X x c) {Q : Value → Shared → Prop} {E : Value → Shared → Prop}, Q c { s' with heap := h3 } → wpAny (model X.prog X.w) (X.A.mark (some (.ref a))) (eval (.Name x np) X.env) Q E { s' with heap := h3 } := by
      intro x c np hc Q E q
      obtain ⟨hg, hdbg, hm | ⟨hm, hv, hnn⟩⟩ := hc
      · exact ld_glob (X := X.suite a ((a, oe3) :: (X.pn ++ pins))) S3 hg hm q hdbg
      · exact ld_blt (X := X.suite a ((a, oe3) :: (X.pn ++ pins))) S3 hg hm hv q hnn hdbg
    have go : ∀ {hds' : List ExceptHandler} {l' : List Clz}, HdsA X hds' l' → wManyA X.K Wout D l' cls d σ' H' →
        wpAny (model X.prog X.w) X.A (handleBy (.ref a) X.env hds') (SP X pins D) X.xe { s' with heap := h3 } := by
      intro hds' l' hk
      induction hk with
      | nil =>
        intro w
        refine wpAny_handleBy_nil ?_
        obtain ⟨k1, k2, k3, oe, vs, T, oT, ts', he, hz, hd, h1, hr⟩ := id fl3
        unfold PySem.passOn
        refine wpAny_bind (wpAny_field he hd h1 ?_)
        rw [if_neg (show ¬ ((Value.ref T == Value.none) = true) from by simp)]
        have fin : wpAny (model X.prog X.w) X.A (setFlight (.ref a) X.env.frame) (fun _ s4 => wpAny (model X.prog X.w) X.A (throw (.ref a) : Sem Flow) (SP X pins D) X.xe s4) X.xe { s' with heap := h3 } := by
          rw [hf]
          refine HandSPX.setFlight_upZ fl3 fun h4 hh4 up4 => wpAny_throw (tk _ _ ?_)
          exact ⟨a, B, sI, pins, σ', H', cls, d, rfl, J, nb, (up.trans up3).trans up4, .inr (.inr (by rw [hs]; exact hh4)), na, os, ag, w⟩
        first
          | exact wpAny_bind (wpAny_pure (wpAny_bind fin))
          | exact wpAny_bind fin
      | @bare x c ts b₀ suite np pos' hds2 l2 hc hsu r ih =>
        intro w
        obtain ⟨b, hb1, hyes, hno⟩ := w
        refine wpAny_handleBy_cons (codeAny_handlers_test ?_) (by intro q; cases q)
        have LM := PySem.W.exm_one (M := model X.prog X.w) (J3.kIn) LT hb1
        refine test hc (LM.here ?_)
        cases b with
        | true =>
          refine codeAny_handlers_suite ?_
          refine HandSPX.lands_againZ fl3 fun h4 fl4 up4 => ?_
          have J4 : Inv X pins σ' H' { s' with heap := h4 } := J.landed nb fl4.1 ((up.trans up3).trans up4) os ag
          obtain ⟨oe4, vs4, he4, hz4, hd4⟩ := fl4.there
          have S4 := J4.suite he4 hd4 na nL nF
          refine wpAny_mono ((hsu a oe4 cls d (X.pn ++ pins) hz4 ⟨_, hd4⟩).run [] _ _ H' _ S4 (hyes rfl a na)) (fun f s6 hsp => ?_) (fun _ _ z => False.elim z)
          cases f with
          | next =>
            obtain ⟨σ6, H6, S6, q6⟩ := hsp
            exact ⟨_, _, S6.unsuite ok, q6⟩
          | brk =>
            obtain ⟨σ6, H6, S6, q6⟩ := hsp
            exact ⟨_, _, S6.unsuite ok, q6⟩
          | cont =>
            obtain ⟨σ6, H6, S6, q6⟩ := hsp
            exact ⟨_, _, S6.unsuite ok, q6⟩
          | ret u =>
            obtain ⟨v6, σ6, H6, S6, r6, q6⟩ := hsp
            exact ⟨_, _, _, S6.unsuite ok, r6, q6⟩
        | false =>
          show wpAny _ X.A (handleBy (.ref a) X.env hds2) _ _ _
          exact ih (hno rfl)
      | @as_ x n i c ts b₀ suite np pos' hds2 l2 hN hi hln hc hsu r ih =>
        intro w
        obtain ⟨b, hb1, hyes, hno⟩ := w
        have hloc : Loc X.env.scope n := .inl hln
        refine wpAny_handleBy_cons (codeAny_handlers_test ?_) (by intro q; cases q)
        have LM := PySem.W.exm_one (M := model X.prog X.w) (J3.kIn) LT hb1
        refine test hc (LM.here ?_)
        cases b with
        | true =>
          refine codeAny_handlers_suite_as ?_
          refine HandSPX.lands_againZ fl3 fun h4 fl4 up4 => ?_
          have J4 : Inv X pins σ' H' { s' with heap := h4 } := J.landed nb fl4.1 ((up.trans up3).trans up4) os ag
          obtain ⟨oe4, vs4, he4, hz4, hd4⟩ := fl4.there
          have S4 := J4.suite he4 hd4 na nL nF
          refine store_ok (X := X.suite a ((a, oe4) :: (X.pn ++ pins))) (v := .ref a) S4 hN hi hloc rfl (fun s5 S5 => ?_) (.inr hln)
          refine wpAny_mono ((hsu a oe4 cls d (X.pn ++ pins) hz4 ⟨_, hd4⟩).run [] s5 _ H' _ S5 (hyes rfl a na)) (fun f s6 hsp => ?_) (fun _ _ z => False.elim z)
          have end_ : ∀ {σ6 : St} {H6 : Hp} {Q : Shared → Prop}, Inv (X.suite a ((a, oe4) :: (X.pn ++ pins))) [] σ6 H6 s6 → (∀ s7, Inv X pins (σ6.set i none) H6 s7 → Q s7) →
              wpAny (model X.prog X.w) X.A (do bindName X.env n .none; unbindBehindTheSuite X.env n pos') (fun _ s7 => Q s7) X.xe s6 := fun {σ6 H6 Q} S6 hq => gone_ok (S6.unsuite ok) hN hi hln hq
          cases f with
          | next =>
            obtain ⟨σ6, H6, S6, q6⟩ := hsp
            exact end_ S6 fun s7 J7 => ⟨_, _, J7, q6⟩
          | brk =>
            obtain ⟨σ6, H6, S6, q6⟩ := hsp
            exact end_ S6 fun s7 J7 => ⟨_, _, J7, q6⟩
          | cont =>
            obtain ⟨σ6, H6, S6, q6⟩ := hsp
            exact end_ S6 fun s7 J7 => ⟨_, _, J7, q6⟩
          | ret u =>
            obtain ⟨v6, σ6, H6, S6, r6, q6⟩ := hsp
            exact end_ S6 fun s7 J7 => ⟨_, _, _, J7, r6, q6⟩
        | false =>
          show wpAny _ X.A (handleBy (.ref a) X.env hds2) _ _ _
          exact ih (hno rfl)
    exact go hh w
  · cases f with
    | next =>
      obtain ⟨σ', H', J', q⟩ := hsp
      exact wpAny_execs_nil ⟨σ', H', J'.ofTry ok, q⟩
    | brk =>
      obtain ⟨σ', H', J', q⟩ := hsp
      exact ⟨σ', H', J'.ofTry ok, q⟩
    | cont =>
      obtain ⟨σ', H', J', q⟩ := hsp
      exact ⟨σ', H', J'.ofTry ok, q⟩
    | ret u =>
      obtain ⟨v, σ', H', J', r, q⟩ := hsp
      exact ⟨v, σ', H', J'.ofTry ok, r, q⟩
end
/-- isinstance(e, c), e the exception that the suite holds at a: its class cls, its dict d -/
def rIsEd (K : PySem.W.Frag) (a : Addr) (cls : Value) (d : Option Addr) : List V → Hp → VK → Prop := fun xs H Q => ∃ (c : V) (cv : Value) (b : Bool) (D dd : Addr) (fs : List (Str × V)), xs = [.ref a, c] ∧ cls = .ref D ∧ ExcC K D ∧ d = some dd ∧ H dd = some (.xd fs) ∧
  (∀ u, RelV c u → u = cv) ∧ PySem.W.kitOne K (.ref D) cv = some b ∧ Q (.bl b) H
theorem call_isEd {X : Cx} {a : Addr} {cls : Value} {d : Option Addr} {oe : Obj} {pn : List (Addr × Obj)} (hz : Zc cls d oe) (hf : ∃ vs, oe.data = .fields vs) : CallR (X.suite a ((a, oe) :: pn)) (.builtin "isinstance") (rIsEd X.K a cls d) := by
  intro pins s σ H xs us Q I r h
  obtain ⟨c, cv, b, D, dd, fs, rfl, rfl, C, rfl, hdd, hcv, e, q⟩ := h
  cases r with
  | cons rx rr =>
    cases rr with
    | cons rt rr =>
      cases rr
      cases rx
      have ec := hcv _ rt
      subst ec
      obtain ⟨hget, _⟩ := I.pin (a, oe) (List.mem_append.mpr (.inl List.mem_cons_self))
      obtain ⟨vs, hv⟩ := hf
      have hx : ObjOk X.prog X.w H s.heap dd (.xd fs) := I.hok dd _ hdd
      obtain ⟨mA, hns, hr⟩ := hx
      obtain ⟨od, ho, hl⟩ := lookIn_ns hns
      have J : PySem.W.InstAt s.heap a oe D (some od) := ⟨hget, hz.1, by unfold PySem.W.notCls; rw [hv] <;> rfl, by rw [hz.2]; exact ho⟩
      have hcl : (PySem.W.clsIn X.K D).isSome = true := by
        obtain ⟨cd, hc, _⟩ := PySem.W.any_some C.hd
        rw [hc] <;> rfl
      exact PySem.W.kia_one (PySem.W.kitx_exc hcl C.hg C.hk C.hs C.ha C.hn C.ht C.hm) I.kIn J e (fun z => nomatch z) fun tk => ⟨.bl b, H, I.kept (t' := tk) fun _ _ z => z, rfl, q⟩
end L2

/-! The head's facts: defs, names, tables, and exception classes with their __init__ -/
namespace HallHd
open PySem PySem.Spec PyProof.Rows L2 PySem.HallX
def cAd (K : PySem.W.Frag) (x : Str) : Addr := He.ga K x
def iAd (K : PySem.W.Frag) (x : Str) : Addr := He.ma K (He.ga K x) "__init__"
def initFd (K : PySem.W.Frag) (x : Str) : Option FuncData := match K.lookup (iAd K x) with
  | some ⟨_, _, .func fd, _⟩ => some fd
  | _ => none
def codeAd (K : PySem.W.Frag) (x : Str) : Addr := match initFd K x with
  | some fd => (match fd.code with
    | .ref a => a
    | _ => 0)
  | none => 0
def cellAd (K : PySem.W.Frag) (x : Str) : Addr := match initFd K x with
  | some fd => (match fd.closure with
    | [(_, c)] => c
    | _ => 0)
  | none => 0
abbrev FnH : Type := Option (Str × Str × Arguments × FuncBody × Scope × Addr × Addr)
def fnH (K : PySem.W.Frag) (x : Str) : FnH := (initFd K x).map fun fd => (fd.name, fd.qualname, fd.params, fd.body, fd.scope, fd.globals, fd.builtins)
structure HallD where
  x : Str
  fld : Str
  qual : Str
  params : Arguments
  body : List Stmt
  scope : Scope
def HallD.val (d : HallD) : FnH := some ("__init__", d.qual, d.params, .stmts d.body, d.scope, mainGlobals, builtinsNs)
def clsB (K : PySem.W.Frag) (C : Addr) : Bool := match K.lookup C with
  | some ⟨.type "type", _, .cls cd, sl⟩ => (match cd.mro, sl.toList with
    | .ref C' :: bm, [_, _, _, _, some (.builtin n), _] => C' == C && n == "ValueError.__new__" && !cd.hasDel && cd.hasDict && PySem.HandSPX.refsVE bm
    | _, _ => false)
  | _ => false
theorem clsB_ok {K : PySem.W.Frag} {C : Addr} (q : clsB K C = true) : ∃ nm q N bs bm sn sub ab col dd k0 k1 k2 k3 k5, K.lookup C = some (excClassObj nm q C N bs bm true sn sub ab col dd k0 k1 k2 k3 k5 "ValueError.__new__") ∧ PySem.HandSPX.refsVE bm = true := by
  unfold clsB at q
  split at q
  · rename_i dd cd sl ho
    split at q
    · rename_i C' bm k0 k1 k2 k3 n k5 hm hs
      simp only [Bool.and_eq_true, beq_iff_eq, Bool.not_eq_true'] at q
      obtain ⟨⟨⟨⟨rfl, rfl⟩, hdel⟩, hdct⟩, ht⟩ := q
      obtain ⟨nm, bs, mro, ns, qn, hd, sn, sub, ab, col, del⟩ := cd
      dsimp only at hm hdel hdct
      subst hm hdel hdct
      have hsl : sl = #[k0, k1, k2, k3, some (.builtin "ValueError.__new__"), k5] := by
        obtain ⟨l⟩ := sl
        simp only at hs
        rw [hs]
      subst hsl
      exact ⟨nm, qn, ns, bs, bm, sn, sub, ab, col, dd, k0, k1, k2, k3, k5, ho, ht⟩
    · cases q
  · cases q
def noFld (K : PySem.W.Frag) (d : HallD) : Bool := decide (PySem.W.findIn K (.ref (cAd K d.x)) d.fld = some none)
def hallB (file : Str) (K : PySem.W.Frag) (d : HallD) : Bool :=
  He.eqO (PySem.W.nsIn K mainGlobals d.x) (some (some (.ref (cAd K d.x))))
  && (clsB K (cAd K d.x)
  && (decide (PySem.W.ks_superIn K (cAd K d.x) (cAd K d.x) "__init__" = some (some (.builtin "ValueError.__init__")))
  && (decide (PySem.W.findIn K (.ref (cAd K d.x)) "__setattr__" = some (some (.builtin "object.__setattr__")))
  && (decide (PySem.W.findIn K (.ref (cAd K d.x)) "__getattribute__" = some (some (.builtin "BaseException.__getattribute__")))
  && (decide (PySem.W.findIn K (.ref (cAd K d.x)) "__getattr__" = some none)
  && (decide (PySem.W.findIn K (.ref (cAd K d.x)) "__init__" = some (some (.ref (iAd K d.x))))
  && (decide (PySem.W.typeIn K (.ref (iAd K d.x)) = some (.type "function"))
  && (PySem.W.keepIn K (.ref (cAd K d.x))
  && (decide (PySem.W.subIn K (.ref (cAd K d.x)) (.type "BaseException") = some true)
  && (decide (PySem.W.typeIn K (.ref (cAd K d.x)) = some (.type "type"))
  && (PySem.W.hasDictIn K (cAd K d.x)
  && (decide (PySem.W.subIn K (.ref (cAd K d.x)) (.type "ValueError") = some true)
  && (decide (PySem.W.mroIn K (cAd K d.x) (.ref (cAd K d.x)) = some true)
  && ((match initFd K d.x with
    | some fd => decide (fd.closure = [(("__class__" : Str), cellAd K d.x)]) && (decide (fd.code = .ref (codeAd K d.x)) && decide (fd.defaults = Value.none))
    | none => false)
  && (PySem.W.codeIn K (.ref (codeAd K d.x)) d.qual
  && ((match K.lookup (codeAd K d.x) with
    | some ⟨_, _, .fields vs, _⟩ => (match (vs : Array Value)[2]? with
      | some (Value.str f _) => decide (f = file)
      | _ => false)
    | _ => false)
  && ((match K.lookup (cellAd K d.x) with
    | some ⟨_, _, .cell (some (.ref C)), _⟩ => decide (C = cAd K d.x)
    | _ => false)
  && (decide (PySem.W.nsIn K cStatics "thirdparty.any" = some none)
  && (He.eqO (PySem.W.nsIn K mainGlobals "super") (some none)
  && (decide (PySem.W.findIn K (.ref (cAd K d.x)) "__class__" = some (some (.builtin "object.__class__")))
  && (decide (PySem.W.specialIn K (.builtin "object.__class__") "__get__" = some (some (.builtin "getset_descriptor.__get__")))
  && (decide (PySem.W.takesIn K (.builtin "object.__class__") = some true)
  && decide (PySem.W.mroIn K (cAd K d.x) (.type "object") = some true)))))))))))))))))))))))
theorem ba {a b : Bool} (h : (a && b) = true) : a = true ∧ b = true := Bool.and_eq_true_iff.mp h
theorem hall_of {prog : Program} {K : PySem.W.Frag} {h : Heap} {mg : Str → Option Value} {d : HallD} (X : K.In h) (G : h.Ns mainGlobals mg) (e : fnH K d.x = d.val) (q : hallB prog.main.file K d = true) (t0 : (prog.main.scope.names.lookup ("super" : Str)).isSome = false) :
    HallTxt prog K mg d.x (cAd K d.x) (iAd K d.x) (cellAd K d.x) (codeAd K d.x) d.qual d.params d.body d.scope ∧ ExcC K (cAd K d.x) := by
  obtain ⟨c1, q⟩ := ba q
  obtain ⟨c2, q⟩ := ba q
  obtain ⟨c3, q⟩ := ba q
  obtain ⟨c4, q⟩ := ba q
  obtain ⟨c5, q⟩ := ba q
  obtain ⟨c6, q⟩ := ba q
  obtain ⟨c7, q⟩ := ba q
  obtain ⟨c8, q⟩ := ba q
  obtain ⟨c9, q⟩ := ba q
  obtain ⟨c10, q⟩ := ba q
  obtain ⟨c11, q⟩ := ba q
  obtain ⟨c12, q⟩ := ba q
  obtain ⟨c13, q⟩ := ba q
  obtain ⟨c14, q⟩ := ba q
  obtain ⟨c15, q⟩ := ba q
  obtain ⟨c16, q⟩ := ba q
  obtain ⟨c17, q⟩ := ba q
  obtain ⟨c18, q⟩ := ba q
  obtain ⟨c19, q⟩ := ba q
  obtain ⟨c20, q⟩ := ba q
  obtain ⟨c21, q⟩ := ba q
  obtain ⟨c22, q⟩ := ba q
  obtain ⟨c23, c24⟩ := ba q
  refine ⟨{ gC := PySem.W.mg_of X G (He.eqO_ok c1), cls := clsB_ok c2, «sup» := of_decide_eq_true c3, sa := of_decide_eq_true c4, ga := of_decide_eq_true c5, gg := of_decide_eq_true c6, iC := of_decide_eq_true c7, tI := of_decide_eq_true c8, kC := c9, exC := of_decide_eq_true c10, tyC := of_decide_eq_true c11, hdC := c12, ve := of_decide_eq_true c13, self := of_decide_eq_true c14, fn := ?_, code := ?_, cell := ?_, stat := of_decide_eq_true c19, sup0 := PySem.W.mg_none_of X G (He.eqO_ok c20), top0 := t0 }, { hg := of_decide_eq_true c5, hk := of_decide_eq_true c6, hs := of_decide_eq_true c10, hd := c12, ha := of_decide_eq_true c21, hn := of_decide_eq_true c22, ht := of_decide_eq_true c23, hm := of_decide_eq_true c24 }⟩
  · unfold fnH at e
    cases q1 : initFd K d.x with
    | none =>
      rw [q1] at c15
      cases c15
    | some fd =>
      rw [q1] at c15 e
      obtain ⟨w1, w2⟩ := ba c15
      obtain ⟨w3, w4⟩ := ba w2
      have d1 := of_decide_eq_true w1
      have d2 := of_decide_eq_true w3
      have d3 := of_decide_eq_true w4
      clear w1 w2 w3 w4 c15
      have q2 : ∃ oc od osl, K.lookup (iAd K d.x) = some ⟨oc, od, .func fd, osl⟩ := by
        unfold initFd at q1
        split at q1
        · rename_i oc od fd' osl ho
          cases q1
          exact ⟨oc, od, osl, ho⟩
        · cases q1
      obtain ⟨oc, od, osl, ho⟩ := q2
      obtain ⟨n1, n2, n3, n4, n5, n6, n7, n8, n9, n10, n11, n12, n13, n14, n15⟩ := fd
      have e2 : (some (n1, n2, n3, n4, n5, n6, n15) : FnH) = some (("__init__" : Str), d.qual, d.params, FuncBody.stmts d.body, d.scope, mainGlobals, builtinsNs) := e
      simp only [Option.some.injEq, Prod.mk.injEq] at e2
      obtain ⟨h1, h2, h3, h4, h5, h6, h7⟩ := e2
      dsimp only at d1 d2 d3
      subst h1 h2 h3 h4 h5 h6 h7 d1 d2
      exact ⟨oc, od, n8, n9, n10, n11, n12, n14, osl, ho, c16, d3⟩
  · cases q1 : K.lookup (codeAd K d.x) with
    | none =>
      rw [q1] at c17
      cases c17
    | some o =>
      obtain ⟨oc, od, dt, osl⟩ := o
      rw [q1] at c17
      cases dt with
      | fields vs =>
        have c18 : (match (vs : Array Value)[2]? with
          | some (Value.str f _) => decide (f = prog.main.file)
          | _ => false) = true := c17
        cases q2 : vs[2]? with
        | none =>
          rw [q2] at c18
          cases c18
        | some v =>
          rw [q2] at c18
          cases v with
          | str f t =>
            have ef : f = prog.main.file := of_decide_eq_true c18
            rw [ef] at q2
            exact ⟨oc, od, vs, osl, t, rfl, q2⟩
          | _ => cases c18
      | _ => cases c17
  · cases q1 : K.lookup (cellAd K d.x) with
    | none =>
      rw [q1] at c18
      cases c18
    | some o =>
      obtain ⟨oc, od, dt, osl⟩ := o
      rw [q1] at c18
      cases dt with
      | cell v =>
        cases v with
        | none => cases c18
        | some v =>
          cases v with
          | ref C =>
            have ec : C = cAd K d.x := of_decide_eq_true c18
            subst ec
            exact ⟨oc, od, osl, rfl⟩
          | _ => cases c18
      | _ => cases c18
theorem noFld_ok {K : PySem.W.Frag} {d : HallD} (h : noFld K d = true) : PySem.W.findIn K (.ref (cAd K d.x)) d.fld = some none := of_decide_eq_true h
/-! ### the Hook -/
abbrev AlH : Type := He.AlD × Bool × List FnH
def kOf (n : Nat) (g : Addr → Option Obj) : PySem.W.Frag := He.frG g (He.asD g n ++ [cStatics])
def obsH (fa : List He.Fa) (fn : List He.DefD) (hs : List HallD) (ex : PySem.W.Frag → Bool) (K : PySem.W.Frag) : AlH := (He.obsD fa fn K, ex K, hs.map fun d => fnH K d.x)
def valH (fn : List He.DefD) (hs : List HallD) : AlH := (He.valD fn, true, hs.map HallD.val)
def obsHG (n : Nat) (fa : List He.Fa) (fn : List He.DefD) (hs : List HallD) (ex : PySem.W.Frag → Bool) (g : Addr → Option Obj) : AlH := obsH fa fn hs ex (kOf n g)
def SaysH (fa : List He.Fa) (fn : List He.DefD) (hs : List HallD) (ex : PySem.W.Frag → Bool) (K : PySem.W.Frag) : Prop := obsH fa fn hs ex K = valH fn hs
def hookH (n : Nat) (fa : List He.Fa) (fn : List He.DefD) (hs : List HallD) (ex : PySem.W.Frag → Bool) : PySem.W.Hook where
  α := AlH
  obs := fun s => obsHG n fa fn hs ex s.heap.get?
  val := fun _ => valH fn hs
  says := fun _ h => ∃ K : PySem.W.Frag, K.In h ∧ SaysH fa fn hs ex K
  of := fun _ _ e => ⟨_, He.frG_in, e⟩
  keeps := fun _ _ _ ⟨K, hK, c⟩ k => ⟨K, PySem.W.Frag.In.keeps hK k, c⟩
theorem obsHG_eq {n : Nat} {fa : List He.Fa} {fn : List He.DefD} {hs : List HallD} {ex : PySem.W.Frag → Bool} {g : Addr → Option Obj} {s : Shared} (h : ∀ a, g a = s.heap.get? a) : obsHG n fa fn hs ex g = (hookH n fa fn hs ex).obs s := by
  have e : g = s.heap.get? := funext h
  rw [e] <;> rfl
section
variable {fa : List He.Fa} {fn : List He.DefD} {hs : List HallD} {ex : PySem.W.Frag → Bool} {K : PySem.W.Frag}
theorem SaysH.d (c : SaysH fa fn hs ex K) : He.SaysD fa fn K := congrArg (fun z : AlH => z.1) c
theorem SaysH.more (c : SaysH fa fn hs ex K) : ex K = true := congrArg (fun z : AlH => z.2.1) c
theorem SaysH.hall (c : SaysH fa fn hs ex K) (i : Nat) {d : HallD} (h : hs[i]? = some d := by rfl) : fnH K d.x = d.val := by
  have e : hs.map (fun d => fnH K d.x) = hs.map HallD.val := congrArg (fun z : AlH => z.2.2) c
  have e2 : (hs.map fun d => fnH K d.x)[i]? = (hs.map HallD.val)[i]? := by rw [e]
  rw [List.getElem?_map, List.getElem?_map, h] at e2
  exact Option.some.inj e2
end
/-- the i-th top statement's class: the j-th statement of its body -/
def inCls (s : Stmt) (j : Nat) : Stmt := inClass s j
end HallHd

/-! Words of my own over HandS: promises by arity, callable defs, readings step by step. -/
namespace L2
open PySem PySem.Spec PyProof.Rows
/-! ### promises by the number of arguments -/
def sp1 (P : V → Hp → VK → XK → Prop) : Sp := fun vs H Q E => ∃ a, vs = [a] ∧ P a H Q E
def sp2 (P : V → V → Hp → VK → XK → Prop) : Sp := fun vs H Q E => ∃ a b, vs = [a, b] ∧ P a b H Q E
def sp3 (P : V → V → V → Hp → VK → XK → Prop) : Sp := fun vs H Q E => ∃ a b c, vs = [a, b, c] ∧ P a b c H Q E
def sp4 (P : V → V → V → V → Hp → VK → XK → Prop) : Sp := fun vs H Q E => ∃ a b c d, vs = [a, b, c, d] ∧ P a b c d H Q E
def sp5 (P : V → V → V → V → V → Hp → VK → XK → Prop) : Sp := fun vs H Q E => ∃ a b c d e, vs = [a, b, c, d, e] ∧ P a b c d e H Q E
theorem sp1_len {P} {vs H Q E} (h : sp1 P vs H Q E) : vs.length = 1 := by obtain ⟨_, rfl, _⟩ := h; rfl
theorem sp2_len {P} {vs H Q E} (h : sp2 P vs H Q E) : vs.length = 2 := by obtain ⟨_, _, rfl, _⟩ := h; rfl
theorem sp3_len {P} {vs H Q E} (h : sp3 P vs H Q E) : vs.length = 3 := by obtain ⟨_, _, _, rfl, _⟩ := h; rfl
theorem sp4_len {P} {vs H Q E} (h : sp4 P vs H Q E) : vs.length = 4 := by obtain ⟨_, _, _, _, rfl, _⟩ := h; rfl
theorem sp5_len {P} {vs H Q E} (h : sp5 P vs H Q E) : vs.length = 5 := by obtain ⟨_, _, _, _, _, rfl, _⟩ := h; rfl
/-! ### a def that may be called by its name -/
structure CalX (P : Program) (w : World) (K : PySem.W.Frag) (mg : Str → Option Value) (base : Heap) (CX : CXT) (k : Nat) (x : Str) (sp : Sp) : Prop where
  ex : ∃ (f : Addr) (fd : FuncData) (ps : List Str), FnOk P w K mg base CX k f fd ps sp ∧ mg x = some (.ref f) ∧ PySem.W.keepIn K (.ref f) = true ∧ Binds K fd ps []
section
variable {P : Program} {w : World} {K : PySem.W.Frag} {mg : Str → Option Value} {base : Heap}
/-- a def without try and raise -/
theorem calx0 {x : Str} {params : Arguments} {body : List Stmt} {scope : Scope} {f : Addr} {fd : FuncData} {N ps : List Str} {k : Nat} {sp : Sp} (F : FunD K x x params body scope [] [] f fd) (hm : mg x = some (.ref f)) (S : FnScope N ps scope)
    (b : Binds K fd ps []) (len : ∀ vs H Q E, sp vs H Q E → vs.length = ps.length)
    (hbody : ∀ (cdv : Value) (A : Around) (outer : List Env) (s : Shared) (H : Hp) (vs : List V) (Q : VK) (E : XK), Room k (A.deeper (envOfC x scope s.heap.objs.size f cdv)) → sp vs H Q E →
      ∃ t, PSs (cxOf CX0 P w K mg base N x scope f cdv A outer s H E).nox body t ∧ t { nx := fun _ H' => Q .non H', rt := Q } (start N vs) H) : CalX P w K mg base CX0 (k + 1) x sp :=
  ⟨f, fd, ps, F.ok S len fun cdv A outer s H vs Q E hr h => by
    obtain ⟨t, h1, h2⟩ := hbody cdv A outer s H vs Q E hr h
    exact ⟨t, h1.nox, h2⟩, hm, F.kp, b⟩
theorem calxX {CX : CXT} {x : Str} {params : Arguments} {body : List Stmt} {scope : Scope} {f : Addr} {fd : FuncData} {N ps : List Str} {k : Nat} {sp : Sp} (F : FunD K x x params body scope [] [] f fd) (hm : mg x = some (.ref f)) (S : FnScope N ps scope)
    (b : Binds K fd ps []) (len : ∀ vs H Q E, sp vs H Q E → vs.length = ps.length)
    (hbody : ∀ (cdv : Value) (A : Around) (outer : List Env) (s : Shared) (H : Hp) (vs : List V) (Q : VK) (E : XK), Room k (A.deeper (envOfC x scope s.heap.objs.size f cdv)) → sp vs H Q E →
      ∃ t, PSs (cxOf CX P w K mg base N x scope f cdv A outer s H E) body t ∧ t { nx := fun _ H' => Q .non H', rt := Q } (start N vs) H) : CalX P w K mg base CX (k + 1) x sp :=
  ⟨f, fd, ps, F.ok S len hbody, hm, F.kp, b⟩
end
section
variable {X : Cx} {CX : CXT} {k j : Nat} {x : Str} {sp : Sp} {p pos : Pos} {e : Expr} {es : List Expr} {t : TA} {E : XK} {ES : St → XK}
theorem pe_cx (c : CalX X.prog X.w X.K X.mg X.base CX k x sp) (hr : Room j X.A) (hk : k ≤ j) (hg : Gl X x) (hx : Passes CX X E) (ha : PA X (e :: es) t)
    (hdb : (x == ("__debug__" : Str)) = false := by decide) (he : starEach (e :: es) X.env = (false, eval e X.env) :: starEach es X.env := by rfl) (hpl : (backTo pos (starEach es X.env)).any (·.1) = false := by rfl) :
    PE X (.Call (.Name x p) (e :: es) [] pos) (tCall sp [] E t) := by
  obtain ⟨f, fd, ps, F, hm, kp, b⟩ := c.ex
  exact pe_call F (hr.mono hk) hg hm kp b .nil hx ha hdb he hpl
theorem pe_cx0 (c : CalX X.prog X.w X.K X.mg X.base CX k x sp) (hr : Room j X.A) (hk : k ≤ j) (hg : Gl X x) (hx : Passes CX X E) (hdb : (x == ("__debug__" : Str)) = false := by decide) :
    PE X (.Call (.Name x p) [] [] pos) (tCall sp [] E tNil) := by
  obtain ⟨f, fd, ps, F, hm, kp, b⟩ := c.ex
  exact pe_call0 F (hr.mono hk) hg hm kp b .nil hx hdb
/-- within a try -/
theorem pe_cxS (c : CalX X.prog X.w X.K X.mg X.base CX k x sp) (hr : Room j X.A) (hk : k ≤ j) (hg : Gl X x) (hx : ∀ σ, PassesAt CX X σ (ES σ)) (ha : PA X (e :: es) t)
    (hdb : (x == ("__debug__" : Str)) = false := by decide) (he : starEach (e :: es) X.env = (false, eval e X.env) :: starEach es X.env := by rfl) (hpl : (backTo pos (starEach es X.env)).any (·.1) = false := by rfl) :
    PE X (.Call (.Name x p) (e :: es) [] pos) (tCallS sp ES t) := by
  obtain ⟨f, fd, ps, F, hm, kp, b⟩ := c.ex
  exact pe_callS F (hr.mono hk) hg hm kp b hx ha hdb he hpl
/-- a name of the module, by its value -/
theorem pe_gv {v : V} (h : ∃ u, X.mg x = some u ∧ RelV v u) (hg : Gl X x := by rfl) (hd : (x == ("__debug__" : Str)) = false := by decide) : PE X (.Name x pos) (tC v) := by
  obtain ⟨u, hm, r⟩ := h
  exact pe_glob hg hm r hd
end
/-! ### more operators -/
section
variable {X : Cx}
/-- text * int -/
def rRepS : R2 := fun x y H Q => ∃ z n, x = .str z ∧ y = .int n ∧ MulOk z n ∧ Q (.str (Txt.mul z n)) H
theorem op_repS : OpR X (binaryOp .Mult) rRepS := by
  intro pins s σ H x y u v Q I rx ry h
  obtain ⟨z, n, rfl, rfl, hok, q⟩ := h
  obtain ⟨t, rfl⟩ := rx
  obtain ⟨t', rfl⟩ := ry
  exact SB.mul hok fun t1 k => ⟨.str (Txt.mul z n), H, I.tok _, ⟨_, rfl⟩, q⟩
end
/-! ### readings by name -/
section
variable {X : Cx}
def rCatS : R2 := fun x y H Q => ∃ i j, x = .str i ∧ y = .str j ∧ i.length + j.length ≤ sizeLine ∧ Q (.str (i ++ j)) H
theorem op_catS : OpR X (binaryOp .Add) rCatS := op_add_str
def rAddI : R2 := rI0 fun i j => .int (i + j)
def rSubI : R2 := rI0 fun i j => .int (i - j)
def rMulI : R2 := rI CMul fun i j => .int (i * j)
def rDivI : R2 := rI CDiv fun i j => .int (i / j)
def rModI : R2 := rI (fun _ j => 0 < j) fun i j => .int (i % j)
def rPowI : R2 := rI CPow fun i j => .int (i ^ j.toNat)
def rLtI : R2 := rI0 fun i j => .bl (decide (i < j))
def rLeI : R2 := rI0 fun i j => .bl (decide (i ≤ j))
def rGtI : R2 := rI0 fun i j => .bl (decide (j < i))
def rGeI : R2 := rI0 fun i j => .bl (decide (j ≤ i))
theorem op_addI : OpR X (binaryOp .Add) rAddI := op_add
theorem op_subI : OpR X (binaryOp .Sub) rSubI := op_sub
theorem op_mulI : OpR X (binaryOp .Mult) rMulI := op_mul
theorem op_divI : OpR X (binaryOp .FloorDiv) rDivI := op_fdiv
theorem op_modI : OpR X (binaryOp .Mod) rModI := op_mod
theorem op_powI : OpR X (binaryOp .Pow) rPowI := op_pow
theorem op_ltI : OpR X (compareOp .Lt) rLtI := op_lt
theorem op_leI : OpR X (compareOp .LtE) rLeI := op_le
theorem op_gtI : OpR X (compareOp .Gt) rGtI := op_gt
theorem op_geI : OpR X (compareOp .GtE) rGeI := op_ge
/-- one sign in a text -/
def rInC : R2 := fun x y H Q => ∃ (c : Nat) (z : Str), x = .str ⟨#[c]⟩ ∧ y = .str z ∧ Q (.bl (decide (c ∈ z.cps.toList))) H
def rNotInC : R2 := fun x y H Q => ∃ (c : Nat) (z : Str), x = .str ⟨#[c]⟩ ∧ y = .str z ∧ Q (.bl (!decide (c ∈ z.cps.toList))) H
theorem op_inC : OpR X (compareOp .In) rInC := op_in_sign
theorem op_notInC : OpR X (compareOp .NotIn) rNotInC := op_notIn_sign
def rLenQ (K : PySem.W.Frag) : List V → Hp → VK → Prop := fun xs H Q => ∃ p ys, xs = [.ref p] ∧ (SqL K H p ys ∨ SqT K H p ys) ∧ Q (.int ys.length) H
def rLenT : List V → Hp → VK → Prop := fun xs H Q => ∃ z : Str, xs = [.str z] ∧ z.length ≤ sizeLine ∧ Q (.int z.length) H
theorem call_lenQ : CallR X (.builtin "len") (rLenQ X.K) := call_len_seq
theorem call_lenT : CallR X (.builtin "len") rLenT := call_len_str
def rAbsI : List V → Hp → VK → Prop := fun xs H Q => ∃ i, xs = [.int i] ∧ Q (.int (if i < 0 then -i else i)) H
theorem call_absI : CallR X (.builtin "abs") rAbsI := call_abs
def rMaxI : List V → Hp → VK → Prop := fun xs H Q => ∃ i j, xs = [.int i, .int j] ∧ Q (.int (if j > i then j else i)) H
def rMinI : List V → Hp → VK → Prop := fun xs H Q => ∃ i j, xs = [.int i, .int j] ∧ Q (.int (if j < i then j else i)) H
theorem call_maxI (hc : X.calm = true) : CallR X (.builtin "max") rMaxI := call_max2 hc
theorem call_minI (hc : X.calm = true) : CallR X (.builtin "min") rMinI := call_min2 hc
def rIntI : List V → Hp → VK → Prop := fun xs H Q => ∃ i, xs = [.int i] ∧ Q (.int i) H
theorem call_intI : CallR X (.type "int") rIntI := fun pins s σ H xs us Q I r ⟨i, e, q⟩ => call_int1 pins s σ H xs us Q I r (.inl ⟨i, e, q⟩)
def rTupL (K : PySem.W.Frag) : List V → Hp → VK → Prop := fun xs H Q => ∃ p ys, xs = [.ref p] ∧ SqL K H p ys ∧ ∀ l, H l = none → Q (.ref l) (upd H l (.tup ys))
theorem call_tupL : CallR X (.type "tuple") (rTupL X.K) := fun pins s σ H xs us Q I r ⟨p, ys, e, h, q⟩ => call_tuple_of pins s σ H xs us Q I r ⟨p, ys, e, .inl ⟨h, q⟩⟩
def rLstQ (K : PySem.W.Frag) : List V → Hp → VK → Prop := fun xs H Q => ∃ p ys, xs = [.ref p] ∧ (SqL K H p ys ∨ SqT K H p ys) ∧ ∀ l, H l = none → Q (.ref l) (upd H l (.lst ys))
theorem call_lstQ : CallR X (.type "list") (rLstQ X.K) := call_list_of
/-- a list of the call's own -/
abbrev rIxTu := rIxT
end
/-! ### steps -/
section
variable {σ : St} {H : Hp} {i : Nat} {v x y z : V} {ta tb tc te : TE} {tt uu : TT} {tA tR : TA} {Q : VK} {QB : Bool → Hp → Prop} {QA : List V → Hp → Prop} {QO : Option Int → Hp → Prop} {D : Ends} {t u : TS} {g : TG} {r r' : R2} {K : PySem.W.Frag}
theorem w_var (e : σ[i]? = some (some v)) (h : Q v H) : tVar i σ H Q := ⟨v, e, h⟩
theorem w_c (h : Q v H) : tC v σ H Q := h
theorem w_op (h : ta σ H fun x H1 => tb σ H1 fun y H2 => r x y H2 Q) : tOp r ta tb σ H Q := h
theorem w_un {ru : V → Hp → VK → Prop} (h : ta σ H fun x H1 => ru x H1 Q) : tUn ru ta σ H Q := h
theorem w_seq (h : t { D with nx := u D } σ H) : tSeq t u D σ H := h
theorem w_next (h : D.nx σ H) : tNext D σ H := h
theorem w_brk (h : D.bk σ H) : tBreak D σ H := h
theorem w_cnt (h : D.ct σ H) : tCont D σ H := h
theorem w_asgN (h : te σ H fun x H1 => D.nx (σ.set i (some x)) H1) : tAsg te (gName i) D σ H := h
theorem w_asg (h : te σ H fun x H1 => g x σ H1 D.nx) : tAsg te g D σ H := h
theorem w_aug {ti : TIp} (e : σ[i]? = some (some x)) (h : te σ H fun y H1 => ti x y H1 fun z H2 => D.nx (σ.set i (some z)) H2) : tAug i te ti D σ H := ⟨x, e, h⟩
theorem w_ipI {f : Int → Int → Int} {a b : Int} (h : Q (.int (f a b)) H) : ipI f (.int a) (.int b) H Q := ⟨a, b, rfl, rfl, h⟩
theorem w_ret (h : te σ H D.rt) : tRet te D σ H := h
theorem w_retN (h : D.rt .non H) : tRetN D σ H := h
theorem w_drop (h : te σ H fun _ H1 => D.nx σ H1) : tDrop te D σ H := h
theorem w_ifS (h : tt σ H fun b H1 => if b = true then t D σ H1 else u D σ H1) : tIfS tt t u D σ H := h
theorem w_if (h : tt σ H fun b H1 => if b = true then ta σ H1 Q else tb σ H1 Q) : tIf tt ta tb σ H Q := h
theorem w_test (h : te σ H fun x H' => ∃ k, x = .bl k ∧ QB k H') : tTest te σ H QB := h
theorem w_tB (h : te σ H fun x H' => ∃ k, x = .bl k ∧ QB k H') : tB te σ H QB := h
theorem w_bl {b : Bool} {F : Bool → Prop} (h : F b) : ∃ k, V.bl b = .bl k ∧ F k := ⟨b, rfl, h⟩
theorem w_and (h : tt σ H fun c H1 => if c = true then uu σ H1 QB else QB false H1) : tAnd tt uu σ H QB := h
theorem w_or (h : tt σ H fun c H1 => if c = true then QB true H1 else uu σ H1 QB) : tOr tt uu σ H QB := h
theorem w_not (h : tt σ H fun c H1 => QB (!c) H1) : tNot tt σ H QB := h
theorem w_andV (h : ta σ H fun x H1 => ∃ c, x = .bl c ∧ if c = true then tb σ H1 Q else Q (.bl false) H1) : tAndV ta tb σ H Q := h
theorem w_orV (h : ta σ H fun x H1 => ∃ c, x = .bl c ∧ if c = true then Q (.bl true) H1 else tb σ H1 Q) : tOrV ta tb σ H Q := h
theorem w_notV (h : ta σ H fun x H1 => ∃ c, x = .bl c ∧ Q (.bl (!c)) H1) : tNotV ta σ H Q := h
theorem w_blI {b : Bool} {F : Bool → Prop} (h : F b) : ∃ c, V.bl b = .bl c ∧ F c := ⟨b, rfl, h⟩
theorem w_nil (h : QA [] H) : tNil σ H QA := h
theorem w_cons (h : te σ H fun x H1 => tR σ H1 fun xs H2 => QA (x :: xs) H2) : tCons te tR σ H QA := h
theorem w_cb {rc : List V → Hp → VK → Prop} (h : tA σ H fun vs H1 => rc vs H1 Q) : tCB rc tA σ H Q := h
theorem w_call {sp : Sp} {E : XK} (h : tA σ H fun vs H1 => sp vs H1 Q E) : tCall sp [] E tA σ H Q := by
  have e : tCall sp [] E tA σ H Q = tA σ H fun vs H1 => sp (vs ++ []) H1 Q E := rfl
  rw [e]
  simpa only [List.append_nil] using h
theorem w_callS {sp : Sp} {ES : St → XK} (h : tA σ H fun vs H1 => sp vs H1 Q (ES σ)) : tCallS sp ES tA σ H Q := h
theorem w_chain (h : ta σ H fun x H1 => tb σ H1 fun y H2 => r x y H2 fun z H3 => ∃ k, z = .bl k ∧ (if k = true then tc σ H3 fun w' H4 => r' y w' H4 Q else Q (.bl false) H3)) : tChain r r' ta tb tc σ H Q := h
theorem w_tup (h : tA σ H fun xs H1 => xs.length ≤ sizeLine ∧ ∀ p, H1 p = none → Q (.ref p) (upd H1 p (.tup xs))) : tTup tA σ H Q := h
theorem w_lst (h : tA σ H fun xs H1 => xs.length ≤ sizeLine ∧ ∀ p, H1 p = none → Q (.ref p) (upd H1 p (.lst xs))) : tLst tA σ H Q := h
theorem w_new {vs : List V} {F : Addr → Prop} (hz : vs.length ≤ 4096) (h : ∀ p, H p = none → F p) : vs.length ≤ sizeLine ∧ ∀ p, H p = none → F p := ⟨Nat.le_trans hz (by decide), h⟩
theorem w_sl {rs : V → Option Int → Option Int → Hp → VK → Prop} {tl th : TO} (h : te σ H fun x H1 => tl σ H1 fun l H2 => th σ H2 fun u H3 => rs x l u H3 Q) : tSl rs te tl th σ H Q := h
theorem w_noPart (h : QO none H) : tNoPart σ H QO := h
theorem w_part (h : te σ H fun x H1 => ∃ i, x = .int i ∧ QO (some i) H1) : tPart te σ H QO := h
theorem w_partI {n : Int} {F : Int → Prop} (h : F n) : ∃ i, V.int n = .int i ∧ F i := ⟨n, rfl, h⟩
theorem w_I0 {f : Int → Int → V} {a b : Int} (h : Q (f a b) H) : rI0 f (.int a) (.int b) H Q := ⟨a, b, rfl, rfl, h⟩
theorem w_addI {a b : Int} (h : Q (.int (a + b)) H) : rAddI (.int a) (.int b) H Q := ⟨a, b, rfl, rfl, h⟩
theorem w_subI {a b : Int} (h : Q (.int (a - b)) H) : rSubI (.int a) (.int b) H Q := ⟨a, b, rfl, rfl, h⟩
theorem w_mulI {a b : Int} (hc : CMul a b) (h : Q (.int (a * b)) H) : rMulI (.int a) (.int b) H Q := ⟨a, b, rfl, rfl, hc, h⟩
theorem w_divI {a b : Int} (hc : CDiv a b) (h : Q (.int (a / b)) H) : rDivI (.int a) (.int b) H Q := ⟨a, b, rfl, rfl, hc, h⟩
theorem w_modI {a b : Int} (hc : 0 < b) (h : Q (.int (a % b)) H) : rModI (.int a) (.int b) H Q := ⟨a, b, rfl, rfl, hc, h⟩
theorem w_powI {a b : Int} (hc : CPow a b) (h : Q (.int (a ^ b.toNat)) H) : rPowI (.int a) (.int b) H Q := ⟨a, b, rfl, rfl, hc, h⟩
theorem w_ltI {a b : Int} (h : Q (.bl (decide (a < b))) H) : rLtI (.int a) (.int b) H Q := ⟨a, b, rfl, rfl, h⟩
theorem w_leI {a b : Int} (h : Q (.bl (decide (a ≤ b))) H) : rLeI (.int a) (.int b) H Q := ⟨a, b, rfl, rfl, h⟩
theorem w_gtI {a b : Int} (h : Q (.bl (decide (b < a))) H) : rGtI (.int a) (.int b) H Q := ⟨a, b, rfl, rfl, h⟩
theorem w_geI {a b : Int} (h : Q (.bl (decide (b ≤ a))) H) : rGeI (.int a) (.int b) H Q := ⟨a, b, rfl, rfl, h⟩
theorem w_eqI {a b : Int} (h : Q (.bl (decide (a = b))) H) : rEq (.int a) (.int b) H Q := ⟨rfl, by
  have e : decide (V.int a = V.int b) = decide (a = b) := by simp
  rw [e]; exact h⟩
theorem w_neI {a b : Int} (h : Q (.bl (!decide (a = b))) H) : rNe (.int a) (.int b) H Q := ⟨rfl, by
  have e : decide (V.int a = V.int b) = decide (a = b) := by simp
  rw [e]; exact h⟩
theorem w_eqS {a b : Str} (h : Q (.bl (decide (a = b))) H) : rEq (.str a) (.str b) H Q := ⟨rfl, by
  have e : decide (V.str a = V.str b) = decide (a = b) := by simp
  rw [e]; exact h⟩
theorem w_neS {a b : Str} (h : Q (.bl (!decide (a = b))) H) : rNe (.str a) (.str b) H Q := ⟨rfl, by
  have e : decide (V.str a = V.str b) = decide (a = b) := by simp
  rw [e]; exact h⟩
theorem w_catS {a b : Str} (hz : a.length + b.length ≤ sizeLine) (h : Q (.str (a ++ b)) H) : rCatS (.str a) (.str b) H Q := ⟨a, b, rfl, rfl, hz, h⟩
theorem w_repS {a : Str} {n : Int} (hz : MulOk a n) (h : Q (.str (Txt.mul a n)) H) : rRepS (.str a) (.int n) H Q := ⟨a, n, rfl, rfl, hz, h⟩
theorem w_inC {c : Nat} {z : Str} (h : Q (.bl (decide (c ∈ z.cps.toList))) H) : rInC (.str ⟨#[c]⟩) (.str z) H Q := ⟨c, z, rfl, rfl, h⟩
theorem w_notInC {c : Nat} {z : Str} (h : Q (.bl (!decide (c ∈ z.cps.toList))) H) : rNotInC (.str ⟨#[c]⟩) (.str z) H Q := ⟨c, z, rfl, rfl, h⟩
theorem w_lenT {z : Str} (hz : z.length ≤ sizeLine) (h : Q (.int z.length) H) : rLenT [.str z] H Q := ⟨z, rfl, hz, h⟩
theorem w_lenL {p : Addr} {ys : List V} (hs : SqL K H p ys) (h : Q (.int ys.length) H) : rLenQ K [.ref p] H Q := ⟨p, ys, rfl, .inl hs, h⟩
theorem w_lenU {p : Addr} {ys : List V} (hs : SqT K H p ys) (h : Q (.int ys.length) H) : rLenQ K [.ref p] H Q := ⟨p, ys, rfl, .inr hs, h⟩
theorem w_absI {a : Int} (h : Q (.int (if a < 0 then -a else a)) H) : rAbsI [.int a] H Q := ⟨a, rfl, h⟩
theorem w_intI {a : Int} (h : Q (.int a) H) : rIntI [.int a] H Q := ⟨a, rfl, h⟩
theorem w_maxI {a b : Int} (h : Q (.int (if b > a then b else a)) H) : rMaxI [.int a, .int b] H Q := ⟨a, b, rfl, h⟩
theorem w_minI {a b : Int} (h : Q (.int (if b < a then b else a)) H) : rMinI [.int a, .int b] H Q := ⟨a, b, rfl, h⟩
theorem w_ixL {p : Addr} {xs : List V} {n : Nat} (hs : SqL K H p xs) (e : xs[n]? = some v) (h : Q v H) : rIxL K (.ref p) (.int (n : Int)) H Q := ⟨p, xs, n, v, rfl, rfl, hs, atI_nat e, h⟩
theorem w_ixU {p : Addr} {xs : List V} {n : Nat} (hs : SqT K H p xs) (e : xs[n]? = some v) (h : Q v H) : rIxT K (.ref p) (.int (n : Int)) H Q := ⟨p, xs, n, v, rfl, rfl, hs, atI_nat e, h⟩
theorem w_ixS {l : List Nat} {n : Nat} {c : Nat} (hz : l.length ≤ sizeLine) (e : l[n]? = some c) (h : Q (.str ⟨#[c]⟩) H) : rIxS (.str (SX.S l)) (.int (n : Int)) H Q := ⟨_, _, c, rfl, rfl, by rw [SX.S_len]; exact hz, atI_nat e, h⟩
theorem w_setL {p : Addr} {xs : List V} {k : Nat} {F : Hp → Prop} (hp : H p = some (.lst xs)) (hk : k < xs.length) (h : F (upd H p (.lst (xs.set k v)))) : rSetL (.ref p) (.int (k : Int)) v H F :=
  ⟨p, xs, k, k, rfl, rfl, hp, by unfold ixN; rw [if_pos (by omega), if_pos (by omega)]; rfl, h⟩
theorem w_gSub {ts : TSet} {F : St → Hp → Prop} (h : ta σ H fun o H1 => tb σ H1 fun i H2 => ts o i v H2 fun H3 => F σ H3) : gSub ta tb ts v σ H F := h
theorem w_bm {T : String} {rm : V → List V → Hp → VK → Prop} (h : te σ H fun x H1 => tyV K T x H1 ∧ tA σ H1 fun xs H2 => rm x xs H2 Q) : tBM K T rm te tA σ H Q := h
theorem w_bm0 {T : String} {rm : V → List V → Hp → VK → Prop} (h : te σ H fun x H1 => tyV K T x H1 ∧ rm x [] H1 Q) : tBM0 K T rm te σ H Q := h
theorem w_lstTy {p : Addr} {xs : List V} {F : Prop} (hp : H p = some (.lst xs)) (h : F) : tyV K "list" (.ref p) H ∧ F := ⟨.inl ⟨rfl, _, SqL.of hp⟩, h⟩
theorem w_app {p : Addr} {xs : List V} (hp : H p = some (.lst xs)) (hz : xs.length < sizeLine) (h : Q .non (upd H p (.lst (xs ++ [v])))) : rAppend (.ref p) [v] H Q := ⟨p, xs, v, rfl, rfl, hp, hz, h⟩
theorem w_dec {p : Prop} {inst : Decidable p} {A B : Prop} (h1 : p → A) (h2 : ¬ p → B) : if @decide p inst = true then A else B := by
  by_cases h : p
  · rw [if_pos (decide_eq_true h)]; exact h1 h
  · rw [if_neg (by simp [h])]; exact h2 h
theorem w_ndec {p : Prop} {inst : Decidable p} {A B : Prop} (h1 : ¬ p → A) (h2 : p → B) : if (!@decide p inst) = true then A else B := by
  by_cases h : p
  · rw [if_neg (by simp [h])]; exact h2 h
  · rw [if_pos (by simp [h])]; exact h1 h
theorem w_b {b : Bool} {A B : Prop} (h1 : b = true → A) (h2 : b = false → B) : if b = true then A else B := by
  cases b with
  | true => rw [if_pos rfl]; exact h1 rfl
  | false => rw [if_neg Bool.false_ne_true]; exact h2 rfl
theorem w_t {A B : Prop} (h : A) : if true = true then A else B := by rw [if_pos rfl]; exact h
theorem w_f {A B : Prop} (h : B) : if false = true then A else B := by rw [if_neg Bool.false_ne_true]; exact h
end
theorem w_nt {A B : Prop} (h : B) : if (!true) = true then A else B := h
theorem w_nf {A B : Prop} (h : A) : if (!false) = true then A else B := h
section
variable {f b c : St → Hp → Prop} {r : VK} {σ : St} {H : Hp} {v : V}
theorem w_nx (h : f σ H) : Ends.nx ⟨f, r, b, c⟩ σ H := h
theorem w_rt (h : r v H) : Ends.rt ⟨f, r, b, c⟩ v H := h
theorem w_bk (h : b σ H) : Ends.bk ⟨f, r, b, c⟩ σ H := h
theorem w_ct (h : c σ H) : Ends.ct ⟨f, r, b, c⟩ σ H := h
end
/-- the body of a def, its slots written out -/
theorem start1 (n : Str) (N : List Str) (v : V) : start (n :: N) [v] = some v :: List.replicate N.length none := rfl
/-- a word between a statement and the rest -/
theorem w_mid {t u : TS} {D : Ends} {σ : St} {H : Hp} (Mid : St → Hp → Prop) (h : t { D with nx := Mid } σ H) (k : ∀ σ' H', Mid σ' H' → u D σ' H') : Evl.tCut t u D σ H := ⟨Mid, h, k⟩
/-! ### loops -/
section
variable {σ : St} {H : Hp} {v : V} {te : TE} {tA : TA} {tc : TT} {D : Ends} {tb : TS} {g : TG} {wi : TI} {K : PySem.W.Frag} {R : It → Hp → Prop}
theorem w_for (h : wi σ H fun J H1 => ∃ W : Nat → Nat → St → Hp → Prop, (∃ m, W 0 m σ H1) ∧ ∀ i m σ H, W i m σ H →
    (J.stop i H ∧ D.nx σ H) ∨ (J.go i H ∧ ∃ N : St → Hp → Prop, (∀ σ' H', N σ' H' → ∃ m', m' < m ∧ W (i + 1) m' σ' H') ∧ ∀ x H', J.yld i H x H' → g x σ H' fun σ2 H2 => tb { D with nx := N, ct := N, bk := D.nx } σ2 H2)) : tFor wi g tb D σ H := h
theorem w_iR1 (h : tA σ H fun vs H1 => ∃ j : Int, vs = [.int j] ∧ -(2 ^ 62) ≤ j ∧ j < 2 ^ 62 ∧ R (Itr 0 j.toNat) H1) : iRng1 tA σ H R := h
theorem w_iR2 (h : tA σ H fun vs H1 => ∃ i j : Int, vs = [.int i, .int j] ∧ (-(2 ^ 62) ≤ i ∧ i < 2 ^ 62 ∧ -(2 ^ 62) ≤ j ∧ j < 2 ^ 62) ∧ R (Itr i (j - i).toNat) H1) : iRng2 tA σ H R := h
theorem w_rg1 {n : Int} {F : Int → Prop} (h1 : -(2 ^ 62) ≤ n) (h2 : n < 2 ^ 62) (h : F n) : ∃ j : Int, [V.int n] = [.int j] ∧ -(2 ^ 62) ≤ j ∧ j < 2 ^ 62 ∧ F j := ⟨n, rfl, h1, h2, h⟩
theorem w_rg2 {a b : Int} {F : Int → Int → Prop} (h1 : -(2 ^ 62) ≤ a ∧ a < 2 ^ 62 ∧ -(2 ^ 62) ≤ b ∧ b < 2 ^ 62) (h : F a b) : ∃ i j : Int, [V.int a, V.int b] = [.int i, .int j] ∧ (-(2 ^ 62) ≤ i ∧ i < 2 ^ 62 ∧ -(2 ^ 62) ≤ j ∧ j < 2 ^ 62) ∧ F i j := ⟨a, b, rfl, h1, h⟩
theorem w_iStr (h : te σ H fun v H1 => ∃ x, v = .str x ∧ R (Its x) H1) : iStr te σ H R := h
theorem w_strI {z : Str} {F : Str → Prop} (h : F z) : ∃ x, V.str z = .str x ∧ F x := ⟨z, rfl, h⟩
theorem w_iList (h : te σ H fun x H1 => ∃ a, x = .ref a ∧ (∃ xs, SqL K H1 a xs) ∧ R (Itl K a) H1) : iList K te σ H R := h
theorem w_lstI {a : Addr} {xs : List V} {F : Addr → Prop} (hs : SqL K H a xs) (h : F a) : ∃ b, V.ref a = .ref b ∧ (∃ xs, SqL K H b xs) ∧ F b := ⟨a, rfl, ⟨xs, hs⟩, h⟩
theorem w_iTup (h : te σ H fun x H1 => ∃ a, x = .ref a ∧ (∃ xs, SqT K H1 a xs) ∧ R (Itt K a) H1) : iTup K te σ H R := h
theorem w_tupI {a : Addr} {xs : List V} {F : Addr → Prop} (hs : SqT K H a xs) (h : F a) : ∃ b, V.ref a = .ref b ∧ (∃ xs, SqT K H b xs) ∧ F b := ⟨a, rfl, ⟨xs, hs⟩, h⟩
theorem for_str {l : List Nat} (Pv : Nat → St → Hp → Prop) (h0 : Pv 0 σ H)
    (hs : ∀ i c σ H, l[i]? = some c → Pv i σ H → g (.str ⟨#[c]⟩) σ H fun σ2 H2 => tb { D with nx := Pv (i + 1), ct := Pv (i + 1), bk := D.nx } σ2 H2) (hd : ∀ σ H, Pv l.length σ H → D.nx σ H) :
    ∃ W : Nat → Nat → St → Hp → Prop, (∃ m, W 0 m σ H) ∧ ∀ i m σ H, W i m σ H →
      ((Its (SX.S l)).stop i H ∧ D.nx σ H) ∨ ((Its (SX.S l)).go i H ∧ ∃ N : St → Hp → Prop, (∀ σ' H', N σ' H' → ∃ m', m' < m ∧ W (i + 1) m' σ' H') ∧ ∀ x H', (Its (SX.S l)).yld i H x H' → g x σ H' fun σ2 H2 => tb { D with nx := N, ct := N, bk := D.nx } σ2 H2) := by
  have sz : (SX.S l).cps.size = l.length := by simp [SX.S]
  refine ⟨fun i m σ H => m = l.length - i ∧ i ≤ l.length ∧ Pv i σ H, ⟨l.length, by simp, Nat.zero_le _, h0⟩, ?_⟩
  rintro i m σ H ⟨rfl, hi, p⟩
  by_cases hlt : i < l.length
  · refine .inr ⟨by show i < (SX.S l).cps.size; rw [sz]; exact hlt, Pv (i + 1), fun σ' H' p' => ⟨l.length - (i + 1), by omega, rfl, hlt, p'⟩, fun x H' y => ?_⟩
    obtain ⟨e, c, hc, rfl⟩ := y
    subst e
    refine hs i c σ _ ?_ p
    have : (SX.S l).cps[i]? = some c := hc
    simpa [SX.S] using this
  · have e : i = l.length := by omega
    subst e
    exact .inl ⟨by show (SX.S l).cps.size ≤ l.length; rw [sz]; exact Nat.le_refl _, hd σ H p⟩
theorem w_whl (W : Nat → St → Hp → Prop) (m0 : Nat) (h0 : W m0 σ H) (hs : ∀ m σ H, W m σ H → tc σ H fun b H1 => if b = true then ∃ N : St → Hp → Prop, (∀ σ' H', N σ' H' → ∃ m', m' < m ∧ W m' σ' H') ∧ tb { D with nx := N, ct := N, bk := D.nx } σ H1 else D.nx σ H1) : tWhile tc tb D σ H :=
  ⟨W, ⟨m0, h0⟩, hs⟩
theorem w_turn {W : Nat → St → Hp → Prop} {m : Nat} (h : tb { D with nx := fun σ' H' => ∃ m', m' < m ∧ W m' σ' H', ct := fun σ' H' => ∃ m', m' < m ∧ W m' σ' H', bk := D.nx } σ H) : ∃ N : St → Hp → Prop, (∀ σ' H', N σ' H' → ∃ m', m' < m ∧ W m' σ' H') ∧ tb { D with nx := N, ct := N, bk := D.nx } σ H := ⟨_, fun _ _ z => z, h⟩
end
/-! ### texts -/
theorem S_eq {a b : List Nat} : SX.S a = SX.S b ↔ a = b := ⟨SX.S_inj, fun e => by rw [e]⟩
theorem S_ofs {s : String} {l : List Nat} (h : (Str.ofString s).cps.toList = l) : Str.ofString s = SX.S l := by
  rw [← h, SX.S_tl]
theorem S_get (l : List Nat) : (SX.S l).cps.toList = l := by simp [SX.S]
theorem inV_S (a : List Nat) : ∀ rs : List (List Nat), inV (.str (SX.S a)) (rs.map fun r => V.str (SX.S r)) = decide (a ∈ rs)
  | [] => rfl
  | r :: rs => by
    have ih := inV_S a rs
    unfold inV at ih ⊢
    rw [List.map_cons, List.any_cons, ih]
    show ((SX.S r == SX.S a) || decide (a ∈ rs)) = decide (a ∈ r :: rs)
    rw [SX.S_beq_eq]
    by_cases h : a = r
    · subst h; simp
    · have h' : ¬ r = a := fun z => h z.symm
      simp [h, h']
theorem flat_S (rs : List (List Nat)) : (rs.map fun r => V.str (SX.S r)).all flatV = true := by
  rw [List.all_map]
  exact List.all_eq_true.mpr fun _ _ => rfl
/-- x in a table of texts -/
theorem w_inTab {K : PySem.W.Frag} {H : Hp} {Q : VK} {p : Addr} {a : List Nat} {xs : List V} {rs : List (List Nat)} (hs : SqT K H p xs) (e : xs = rs.map fun r => V.str (SX.S r)) (h : Q (.bl (decide (a ∈ rs))) H) : rIn K false (.str (SX.S a)) (.ref p) H Q := by
  subst e
  refine ⟨p, _, rfl, .inr hs, rfl, flat_S rs, ?_⟩
  rw [inV_S]
  exact h
theorem w_inLst {K : PySem.W.Frag} {H : Hp} {Q : VK} {p : Addr} {a : List Nat} {xs : List V} {rs : List (List Nat)} (hs : SqL K H p xs) (e : xs = rs.map fun r => V.str (SX.S r)) (h : Q (.bl (decide (a ∈ rs))) H) : rIn K false (.str (SX.S a)) (.ref p) H Q := by
  subst e
  refine ⟨p, _, rfl, .inl hs, rfl, flat_S rs, ?_⟩
  rw [inV_S]
  exact h
/-- slices of texts: a whole number from 0 on, on both sides -/
theorem cut_S (l : List Nat) (a b : Option Nat) : cutS (SX.S l) (a.map Int.ofNat) (b.map Int.ofNat) = SX.S ((l.drop (a.getD 0)).take (b.getD l.length - a.getD 0)) := by
  have hl : (SX.S l).length = l.length := SX.S_len l
  have six : ∀ (n d : Nat) (o : Option Nat), d ≤ n → HT.sIx n d (o.map Int.ofNat) = min (o.getD d) n := by
    intro n d o hd
    cases o with
    | none => show d = min d n; omega
    | some k => exact HT.sIx_nat n d k
  unfold cutS
  rw [hl, six _ _ _ (Nat.zero_le _), six _ _ _ (Nat.le_refl _), S_get]
  congr 1
  apply congrArg
  apply List.ext_getElem?
  intro i
  simp only [List.getElem?_take, List.getElem?_drop]
  by_cases h1 : i < min (b.getD l.length) l.length - min (a.getD 0) l.length
  · rw [if_pos h1, if_pos (by omega), show min (a.getD 0) l.length + i = a.getD 0 + i by omega]
  · rw [if_neg h1]
    by_cases h2 : i < b.getD l.length - a.getD 0
    · rw [if_pos h2, List.getElem?_eq_none (by omega)]
    · rw [if_neg h2]
theorem w_cutS {H : Hp} {Q : VK} {l : List Nat} {a b : Nat} (hz : l.length ≤ sizeLine) (h : Q (.str (SX.S ((l.drop a).take (b - a)))) H) : rSlS (.str (SX.S l)) (some (a : Int)) (some (b : Int)) H Q :=
  ⟨_, rfl, by rw [SX.S_len]; exact hz, by have e := cut_S l (some a) (some b); rw [show (some (a : Int)) = (some a).map Int.ofNat from rfl, show (some (b : Int)) = (some b).map Int.ofNat from rfl, e]; exact h⟩
theorem w_cutTo {H : Hp} {Q : VK} {l : List Nat} {b : Nat} (hz : l.length ≤ sizeLine) (h : Q (.str (SX.S (l.take b))) H) : rSlS (.str (SX.S l)) none (some (b : Int)) H Q :=
  ⟨_, rfl, by rw [SX.S_len]; exact hz, by have e := cut_S l none (some b); rw [show (none : Option Int) = (none : Option Nat).map Int.ofNat from rfl, show (some (b : Int)) = (some b).map Int.ofNat from rfl, e]; exact h⟩
theorem w_cutFrom {H : Hp} {Q : VK} {l : List Nat} {a : Nat} (hz : l.length ≤ sizeLine) (h : Q (.str (SX.S (l.drop a))) H) : rSlS (.str (SX.S l)) (some (a : Int)) none H Q :=
  ⟨_, rfl, by rw [SX.S_len]; exact hz, by
    have e := cut_S l (some a) none
    rw [show (some (a : Int)) = (some a).map Int.ofNat from rfl, show (none : Option Int) = (none : Option Nat).map Int.ofNat from rfl, e]
    have z : (l.drop ((some a).getD 0)).take ((none : Option Nat).getD l.length - (some a).getD 0) = l.drop a := by
      show (l.drop a).take (l.length - a) = l.drop a
      exact List.take_of_length_le (by rw [List.length_drop]; omega)
    rw [z]; exact h⟩
theorem S_app (a b : List Nat) : SX.S a ++ SX.S b = SX.S (a ++ b) := SX.S_cat a b
theorem w_catT {H : Hp} {Q : VK} {a b : List Nat} (hz : a.length + b.length ≤ sizeLine) (h : Q (.str (SX.S (a ++ b))) H) : rCatS (.str (SX.S a)) (.str (SX.S b)) H Q := ⟨_, _, rfl, rfl, by rw [SX.S_len, SX.S_len]; exact hz, by rw [S_app]; exact h⟩
theorem w_lenS {H : Hp} {Q : VK} {l : List Nat} (hz : l.length ≤ sizeLine) (h : Q (.int (l.length : Int)) H) : rLenT [.str (SX.S l)] H Q := ⟨_, rfl, by rw [SX.S_len]; exact hz, by rw [SX.S_len]; exact h⟩
theorem w_eqT {H : Hp} {Q : VK} {a b : List Nat} (h : Q (.bl (decide (a = b))) H) : rEq (.str (SX.S a)) (.str (SX.S b)) H Q := ⟨rfl, by
  have e : decide (V.str (SX.S a) = V.str (SX.S b)) = decide (a = b) := by
    by_cases z : a = b
    · subst z; simp
    · simp only [V.str.injEq, S_eq]
  rw [e]; exact h⟩
theorem w_neT {H : Hp} {Q : VK} {a b : List Nat} (h : Q (.bl (!decide (a = b))) H) : rNe (.str (SX.S a)) (.str (SX.S b)) H Q := ⟨rfl, by
  have e : decide (V.str (SX.S a) = V.str (SX.S b)) = decide (a = b) := by
    by_cases z : a = b
    · subst z; simp
    · simp only [V.str.injEq, S_eq]
  rw [e]; exact h⟩
theorem w_inS {H : Hp} {Q : VK} {c : Nat} {l : List Nat} (h : Q (.bl (decide (c ∈ l))) H) : rInC (.str ⟨#[c]⟩) (.str (SX.S l)) H Q := ⟨c, _, rfl, rfl, by rw [S_get]; exact h⟩
theorem w_ninS {H : Hp} {Q : VK} {c : Nat} {l : List Nat} (h : Q (.bl (!decide (c ∈ l))) H) : rNotInC (.str ⟨#[c]⟩) (.str (SX.S l)) H Q := ⟨c, _, rfl, rfl, by rw [S_get]; exact h⟩
theorem flatten_rep (xs : Array Nat) : ∀ (n : Nat) (acc : Array Nat), ((List.replicate n xs).foldl (· ++ ·) acc).toList = acc.toList ++ (List.replicate n xs.toList).flatten
  | 0, acc => by simp
  | n + 1, acc => by
    rw [List.replicate_succ, List.foldl_cons, flatten_rep xs n, Array.toList_append, List.replicate_succ, List.flatten_cons, List.append_assoc]
theorem mul_S (l : List Nat) (n : Nat) : Txt.mul (SX.S l) (n : Int) = SX.S ((List.replicate n l).flatten) := by
  unfold Txt.mul
  by_cases h1 : (n : Int) < 1
  · rw [if_pos h1]
    have e : n = 0 := by omega
    subst e; rfl
  · rw [if_neg h1]
    by_cases h2 : ((n : Int) == 1 || (SX.S l).length == 0) = true
    · rw [if_pos h2]
      rw [Bool.or_eq_true, beq_iff_eq, beq_iff_eq, SX.S_len] at h2
      rcases h2 with h2 | h2
      · have e : n = 1 := by omega
        subst e; simp
      · have e : l = [] := List.length_eq_zero_iff.mp h2
        subst e
        have z : (List.replicate n ([] : List Nat)).flatten = [] := by simp
        rw [z]
    · rw [if_neg h2, Int.toNat_natCast]
      have e := flatten_rep (SX.S l).cps n #[]
      rw [S_get] at e
      show (⟨_⟩ : Str) = SX.S _
      apply TL.ext_tl
      show ((List.replicate n (SX.S l).cps).foldl (· ++ ·) #[]).toList = _
      rw [e]
      simp [TL.tl, SX.S]
theorem w_repT {H : Hp} {Q : VK} {l : List Nat} {n : Nat} (hz : l.length * n ≤ 1000000) (h : Q (.str (SX.S ((List.replicate n l).flatten))) H) (hn : n ≤ 1000000 := by omega) : rRepS (.str (SX.S l)) (.int (n : Int)) H Q := by
  refine ⟨_, _, rfl, rfl, ⟨?_, fun h1 h2 => ?_, fun h1 h2 => ?_⟩, by rw [mul_S]; exact h⟩
  · rw [decide_eq_false (by omega), decide_eq_false (by omega)]; rfl
  · rw [SX.S_len]
    have h3 : (0 : Int) < n := by omega
    have h4 : (l.length : Int) * n ≤ 1000000 := by
      have z : ((l.length * n : Nat) : Int) ≤ ((1000000 : Nat) : Int) := Int.ofNat_le.mpr hz
      rw [Int.natCast_mul] at z
      exact z
    have h5 : (l.length : Int) ≤ (2 ^ 63 - 1) / (n : Int) := Int.le_ediv_of_mul_le h3 (by omega)
    omega
  · rw [SX.S_len, Int.toNat_natCast]
    show decide (l.length * n > sizeLine) = false
    rw [sizeLine_eq]
    exact decide_eq_false (by omega)
/-! ### isinstance -/
theorem w_isi {K : PySem.W.Frag} {H : Hp} {Q : VK} {x : V} {t : Value} {n : String} {b : Bool} (ty : TyX K H x t) (k : PySem.W.kitOne K t (.type n) = some b) (h : Q (.bl b) H) : rIsi K [x, .ty n] H Q := ⟨x, .ty n, t, .type n, b, rfl, .ty n, ty, k, h⟩
theorem kit_ss {K : PySem.W.Frag} : PySem.W.kitOne K (.type "str") (.type "str") = some true := kit_ty (by decide +kernel)
theorem kit_ii {K : PySem.W.Frag} : PySem.W.kitOne K (.type "int") (.type "int") = some true := kit_ty (by decide +kernel)
theorem kit_ib {K : PySem.W.Frag} : PySem.W.kitOne K (.type "int") (.type "bool") = some false := kit_ty (by decide +kernel)
theorem kit_tt {K : PySem.W.Frag} : PySem.W.kitOne K (.type "tuple") (.type "tuple") = some true := kit_ty (by decide +kernel)
end L2

/-! Steps for comprehensions, list slices, list sums. -/
namespace L2
open PySem PySem.Spec PyProof.Rows
section
variable {σ : St} {H : Hp} {Q : VK} {QB : Bool → Hp → Prop} {K : PySem.W.Frag} {D : Ends}
theorem w_yes (h : QB true H) : tYes σ H QB := h
theorem w_lc {wi : TI} {g : TG} {tt : TT} {te : TE} {vs : List Nat} (h : wi σ H fun J H1 => ∀ D, H1 D = none → ∃ W : Nat → Nat → Hp → Prop, (∃ m, W 0 m (upd H1 D (.lst []))) ∧ ∀ i m H, W i m H →
  (J.stop i H ∧ Q (.ref D) H) ∨ (J.go i H ∧ ∃ Nx : Hp → Prop, (∀ H', Nx H' → ∃ m', m' < m ∧ W (i + 1) m' H') ∧ ∀ x H', J.yld i H x H' → g x (wipe σ vs) H' fun σ2 H2 => wipe σ2 vs = wipe σ vs ∧ tt σ2 H2 fun b H3 =>
    if b = true then te σ2 H3 fun y H4 => ∃ acc, H4 D = some (.lst acc) ∧ acc.length < sizeLine ∧ Nx (upd H4 D (.lst (acc ++ [y]))) else Nx H3)) : tLc wi g tt te vs σ H Q := h
theorem w_neg {f : Int → V} {a : Int} (h : Q (f a) H) : rU f (.int a) H Q := ⟨a, rfl, h⟩
theorem cut_V (l : List V) (a b : Option Nat) : cutV l (a.map Int.ofNat) (b.map Int.ofNat) = (l.drop (a.getD 0)).take (b.getD l.length - a.getD 0) := by
  have six : ∀ (n d : Nat) (o : Option Nat), d ≤ n → HT.sIx n d (o.map Int.ofNat) = min (o.getD d) n := by
    intro n d o hd
    cases o with
    | none => show d = min d n; omega
    | some k => exact HT.sIx_nat n d k
  unfold cutV
  rw [six _ _ _ (Nat.zero_le _), six _ _ _ (Nat.le_refl _)]
  apply List.ext_getElem?
  intro i
  simp only [List.getElem?_take, List.getElem?_drop]
  by_cases h1 : i < min (b.getD l.length) l.length - min (a.getD 0) l.length
  · rw [if_pos h1, if_pos (by omega), show min (a.getD 0) l.length + i = a.getD 0 + i by omega]
  · rw [if_neg h1]
    by_cases h2 : i < b.getD l.length - a.getD 0
    · rw [if_pos h2, List.getElem?_eq_none (by omega)]
    · rw [if_neg h2]
theorem cut_to (l : List V) (b : Nat) : cutV l none (some (b : Int)) = l.take b := cut_V l none (some b)
theorem cut_from (l : List V) (a : Nat) : cutV l (some (a : Int)) none = l.drop a := by
  have e := cut_V l (some a) none
  have z : (l.drop ((some a).getD 0)).take ((none : Option Nat).getD l.length - (some a).getD 0) = l.drop a := by
    show (l.drop a).take (l.length - a) = l.drop a
    exact List.take_of_length_le (by rw [List.length_drop]; omega)
  rw [z] at e
  exact e
theorem cut_mid (l : List V) (a b : Nat) : cutV l (some (a : Int)) (some (b : Int)) = (l.drop a).take (b - a) := cut_V l (some a) (some b)
theorem w_lTo {p : Addr} {l : List V} {b : Nat} (hs : SqL K H p l) (h : ∀ q, H q = none → Q (.ref q) (upd H q (.lst (l.take b)))) : rSlL K (.ref p) none (some (b : Int)) H Q := ⟨p, l, rfl, hs, by rw [cut_to]; exact h⟩
theorem w_lFrom {p : Addr} {l : List V} {a : Nat} (hs : SqL K H p l) (h : ∀ q, H q = none → Q (.ref q) (upd H q (.lst (l.drop a)))) : rSlL K (.ref p) (some (a : Int)) none H Q := ⟨p, l, rfl, hs, by rw [cut_from]; exact h⟩
theorem w_lMid {p : Addr} {l : List V} {a b : Nat} (hs : SqL K H p l) (h : ∀ q, H q = none → Q (.ref q) (upd H q (.lst ((l.drop a).take (b - a))))) : rSlL K (.ref p) (some (a : Int)) (some (b : Int)) H Q := ⟨p, l, rfl, hs, by rw [cut_mid]; exact h⟩
theorem w_catL {p q : Addr} {xs zs : List V} (hp : H p = some (.lst xs)) (hq : H q = some (.lst zs)) (hz : xs.length + zs.length ≤ sizeLine) (h : ∀ t, H t = none → Q (.ref t) (upd H t (.lst (xs ++ zs)))) : rCat (.ref p) (.ref q) H Q := ⟨p, q, xs, zs, rfl, rfl, hp, hq, hz, h⟩
end
end L2

namespace K12
open PySem PySem.Spec PyProof.Rows L2
abbrev P : Program := PySem.Challenge.pw_lemmahall_k12_tokens_and_places
def top (i : Nat) : Stmt := PySem.Challenge.pw_lemmahall_k12_tokens_and_places.main.body.getD i (.Pass ⟨0, 0, 0, 0⟩)
abbrev s_is_name : Stmt := top 9
abbrev s_tokens : Stmt := top 17
abbrev s_token_at : Stmt := top 18
abbrev s_word_at : Stmt := top 19
abbrev s_law_dice : Stmt := top 21
abbrev s_law_draw : Stmt := top 22
abbrev s_law_name : Stmt := top 23
abbrev s_law_token : Stmt := top 24
abbrev s_law_bad : Stmt := top 25
abbrev s_law_sticks : Stmt := top 26
abbrev s_law_joined : Stmt := top 27
abbrev s_law_changed : Stmt := top 28
abbrev s_law_signs : Stmt := top 29
abbrev s_law_long : Stmt := top 30
abbrev s_law_size : Stmt := top 31
abbrev s_law_scan : Stmt := top 32
abbrev s_law_asked : Stmt := top 33
abbrev s_law_is_integer : Stmt := top 34
abbrev s_law_agrees : Stmt := top 35
abbrev s_law_round : Stmt := top 36
abbrev s_law : Stmt := top 37
def dd (x : Str) (i : Nat) : He.DefD := ⟨(x, none), x, x, defArgs (top i), defBody (top i), defScope (top i), [], []⟩
def fn : List He.DefD := ([dd "is_name" 9, dd "tokens" 17, dd "_token_at" 18, dd "_word_at" 19, dd "_law_dice" 21, dd "_law_draw" 22, dd "_law_name" 23, dd "_law_token" 24, dd "_law_bad" 25, dd "_law_sticks" 26, dd "_law_joined" 27, dd "_law_changed" 28, dd "_law_signs" 29, dd "_law_long" 30, dd "_law_size" 31, dd "_law_scan" 32, dd "_law_asked" 33, dd "_law_is_integer" 34, dd "_law_agrees" 35, dd "_law_round" 36, dd "law" 37] : List He.DefD)
def fa : List He.Fa := ([.glo "is_name", .glo "tokens", .glo "_token_at", .glo "_word_at", .glo "_law_dice", .glo "_law_draw", .glo "_law_name", .glo "_law_token", .glo "_law_bad", .glo "_law_sticks", .glo "_law_joined", .glo "_law_changed", .glo "_law_signs", .glo "_law_long", .glo "_law_size", .glo "_law_scan", .glo "_law_asked", .glo "_law_is_integer", .glo "_law_agrees", .glo "_law_round", .glo "law", .free "isinstance", .free "str", .free "len"] : List He.Fa) ++ ([.free "tuple", .free "abs", .free "int", .free "range", .free "ValueError", .free "bool", .free "min", .free "max", .str "LETTERS_kinds" "abcdefghijklmnopqrstuvwxyz", .str "_NAME_SIGNS" "abcdefghijklmnopqrstuvwxyz0123456789_", .int "_NAME_LENGTH" 16, .glo "_RESERVED", .int "_MAX_TEXT" 20000, .str "LETTERS_lexer" "abcdefghijklmnopqrstuvwxyz", .str "_WORD_SIGNS" "abcdefghijklmnopqrstuvwxyz0123456789_", .glo "_WORDS", .glo "_LONG_SIGNS", .glo "_SHORT_SIGNS", .glo "HallError", .glo "InvalidText", .glo "TooLarge", .exm "InvalidText" "InvalidText" true, .exm "TooLarge" "InvalidText" false, .exm "TooLarge" "TooLarge" true] : List He.Fa)
def h_InvalidText : HallHd.HallD := ⟨"InvalidText", "place", "InvalidText.__init__", defArgs (inClass (top 2) 0), defBody (inClass (top 2) 0), defScope (inClass (top 2) 0)⟩
def h_TooLarge : HallHd.HallD := ⟨"TooLarge", "limit", "TooLarge.__init__", defArgs (inClass (top 3) 0), defBody (inClass (top 3) 0), defScope (inClass (top 3) 0)⟩
def hs : List HallHd.HallD := [h_InvalidText, h_TooLarge]
def file : Str := PySem.Challenge.pw_lemmahall_k12_tokens_and_places.main.file
def tb_RESERVED : List He.Dv := ([.str "all", .str "some", .str "lam", .str "true", .str "false", .str "bool"] : List He.Dv)
def tb_WORDS : List He.Dv := ([.str "all", .str "some", .str "lam", .str "true", .str "false", .str "bool"] : List He.Dv)
def tb_LONG_SIGNS : List He.Dv := ([.str "=>", .str "->", .str "|-"] : List He.Dv)
def tb_SHORT_SIGNS : List He.Dv := ([.str "(", .str ")", .str ":", .str ".", .str ",", .str "'", .str "=", .str "&", .str "|", .str "~"] : List He.Dv)
def exl (K : PySem.W.Frag) : List Bool := ([He.tupB K "_RESERVED" tb_RESERVED, He.tupB K "_WORDS" tb_WORDS, He.tupB K "_LONG_SIGNS" tb_LONG_SIGNS, He.tupB K "_SHORT_SIGNS" tb_SHORT_SIGNS, HallHd.hallB file K h_InvalidText, HallHd.hallB file K h_TooLarge, HallHd.noFld K h_InvalidText, HallHd.noFld K h_TooLarge, decide (PySem.W.kitOne K (.ref (He.ga K "InvalidText")) (.ref (He.ga K "TooLarge")) = some false), decide (PySem.W.kitOne K (.ref (He.ga K "InvalidText")) (.ref (He.ga K "HallError")) = some true), decide (PySem.W.kitOne K (.ref (He.ga K "InvalidText")) (.type "ValueError") = some true)] : List Bool)
def ex (K : PySem.W.Frag) : Bool := (exl K).all id
abbrev R : PySem.W.OpenRow := PySem.W.OpenLaw.row PySem.Challenge.rw_lemmahall_k12_tokens_and_places
abbrev hk : PySem.W.Hook := HallHd.hookH 5 fa fn hs ex
def ob (s : PySem.W.SharedT) : HallHd.AlH := HallHd.obsHG 5 fa fn hs ex (HandSHeadRun.getT s)
theorem ob_eq (s : PySem.W.SharedT) : ob s = hk.obs s.abs := HallHd.obsHG_eq (HandSHeadRun.getT_eq s)
def loose : List PySem.Str := (["HallError", "InvalidText", "TooLarge", "LETTERS_kinds", "_NAME_SIGNS", "_NAME_LENGTH", "_RESERVED", "_MAX_TEXT", "LETTERS_lexer", "_WORD_SIGNS", "_WORDS", "_LONG_SIGNS", "_SHORT_SIGNS", "is_name", "tokens", "_token_at", "_word_at", "_law_dice", "_law_draw", "_law_name", "_law_token", "_law_bad", "_law_sticks", "_law_joined"] : List PySem.Str) ++ (["_law_changed", "_law_signs", "_law_long", "_law_size", "_law_scan", "_law_asked", "_law_is_integer", "_law_agrees", "_law_round"] : List PySem.Str)
theorem run (w : World) : HandSHeadRun.RunEq R (PySem.W.view R.prog [37]) hk ob 2000 loose w := by
  intro os
  kernel_rfl
/-- what the top has written, by names -/
structure Txt (K : PySem.W.Frag) (mg : Str → Option Value) : Prop where
  f_isinstance : mg "isinstance" = none
  f_str : mg "str" = none
  f_len : mg "len" = none
  f_tuple : mg "tuple" = none
  f_abs : mg "abs" = none
  f_int : mg "int" = none
  f_range : mg "range" = none
  f_ValueError : mg "ValueError" = none
  f_bool : mg "bool" = none
  f_min : mg "min" = none
  f_max : mg "max" = none
  v_LETTERS_kinds : ∃ u, mg "LETTERS_kinds" = some u ∧ RelV (.str "abcdefghijklmnopqrstuvwxyz") u
  v_NAME_SIGNS : ∃ u, mg "_NAME_SIGNS" = some u ∧ RelV (.str "abcdefghijklmnopqrstuvwxyz0123456789_") u
  v_NAME_LENGTH : ∃ u, mg "_NAME_LENGTH" = some u ∧ RelV (.int 16) u
  v_RESERVED : ∃ u, mg "_RESERVED" = some u ∧ RelV (.ref (He.ga K "_RESERVED")) u
  v_MAX_TEXT : ∃ u, mg "_MAX_TEXT" = some u ∧ RelV (.int 20000) u
  v_LETTERS_lexer : ∃ u, mg "LETTERS_lexer" = some u ∧ RelV (.str "abcdefghijklmnopqrstuvwxyz") u
  v_WORD_SIGNS : ∃ u, mg "_WORD_SIGNS" = some u ∧ RelV (.str "abcdefghijklmnopqrstuvwxyz0123456789_") u
  v_WORDS : ∃ u, mg "_WORDS" = some u ∧ RelV (.ref (He.ga K "_WORDS")) u
  v_LONG_SIGNS : ∃ u, mg "_LONG_SIGNS" = some u ∧ RelV (.ref (He.ga K "_LONG_SIGNS")) u
  v_SHORT_SIGNS : ∃ u, mg "_SHORT_SIGNS" = some u ∧ RelV (.ref (He.ga K "_SHORT_SIGNS")) u
  v_HallError : ∃ u, mg "HallError" = some u ∧ RelV (.ref (He.ga K "HallError")) u
  g_HallError : mg "HallError" = some (.ref (He.ga K "HallError"))
  v_InvalidText : ∃ u, mg "InvalidText" = some u ∧ RelV (.ref (He.ga K "InvalidText")) u
  g_InvalidText : mg "InvalidText" = some (.ref (He.ga K "InvalidText"))
  v_TooLarge : ∃ u, mg "TooLarge" = some u ∧ RelV (.ref (He.ga K "TooLarge")) u
  g_TooLarge : mg "TooLarge" = some (.ref (He.ga K "TooLarge"))
  x_InvalidText_InvalidText : PySem.W.exmOne K (.ref (He.ga K "InvalidText")) (.ref (He.ga K "InvalidText")) = some true
  x_TooLarge_InvalidText : PySem.W.exmOne K (.ref (He.ga K "TooLarge")) (.ref (He.ga K "InvalidText")) = some false
  x_TooLarge_TooLarge : PySem.W.exmOne K (.ref (He.ga K "TooLarge")) (.ref (He.ga K "TooLarge")) = some true
  t_RESERVED : ∀ H, SqT K H (He.ga K "_RESERVED") (tb_RESERVED.map (He.Dv.v K))
  t_WORDS : ∀ H, SqT K H (He.ga K "_WORDS") (tb_WORDS.map (He.Dv.v K))
  t_LONG_SIGNS : ∀ H, SqT K H (He.ga K "_LONG_SIGNS") (tb_LONG_SIGNS.map (He.Dv.v K))
  t_SHORT_SIGNS : ∀ H, SqT K H (He.ga K "_SHORT_SIGNS") (tb_SHORT_SIGNS.map (He.Dv.v K))
  h_InvalidText : PySem.HallX.HallTxt PySem.Challenge.pw_lemmahall_k12_tokens_and_places K mg "InvalidText" (HallHd.cAd K "InvalidText") (HallHd.iAd K "InvalidText") (HallHd.cellAd K "InvalidText") (HallHd.codeAd K "InvalidText") h_InvalidText.qual h_InvalidText.params h_InvalidText.body h_InvalidText.scope
  e_InvalidText : ExcC K (HallHd.cAd K "InvalidText")
  h_TooLarge : PySem.HallX.HallTxt PySem.Challenge.pw_lemmahall_k12_tokens_and_places K mg "TooLarge" (HallHd.cAd K "TooLarge") (HallHd.iAd K "TooLarge") (HallHd.cellAd K "TooLarge") (HallHd.codeAd K "TooLarge") h_TooLarge.qual h_TooLarge.params h_TooLarge.body h_TooLarge.scope
  e_TooLarge : ExcC K (HallHd.cAd K "TooLarge")
  n_InvalidText : PySem.W.findIn K (.ref (HallHd.cAd K "InvalidText")) "place" = some none
  n_TooLarge : PySem.W.findIn K (.ref (HallHd.cAd K "TooLarge")) "limit" = some none
  k_InvalidText_TooLarge : PySem.W.kitOne K (.ref (He.ga K "InvalidText")) (.ref (He.ga K "TooLarge")) = some false
  k_InvalidText_HallError : PySem.W.kitOne K (.ref (He.ga K "InvalidText")) (.ref (He.ga K "HallError")) = some true
  k_InvalidText_ValueError : PySem.W.kitOne K (.ref (He.ga K "InvalidText")) (.type "ValueError") = some true
theorem exl_at {K : PySem.W.Frag} (h : ex K = true) (i : Nat) {b : Bool} (e : (exl K)[i]? = some b) : b = true := by
  have z := List.all_eq_true.mp h b (List.mem_of_getElem? e)
  exact z
theorem txt_of {K : PySem.W.Frag} {h : Heap} {mg : Str → Option Value} (X : K.In h) (G : h.Ns mainGlobals mg) (c : HallHd.SaysH fa fn hs ex K) : Txt K mg where
  f_isinstance := He.free_ok X G (c.d.fact 21 (f := .free "isinstance") rfl)
  f_str := He.free_ok X G (c.d.fact 22 (f := .free "str") rfl)
  f_len := He.free_ok X G (c.d.fact 23 (f := .free "len") rfl)
  f_tuple := He.free_ok X G (c.d.fact 24 (f := .free "tuple") rfl)
  f_abs := He.free_ok X G (c.d.fact 25 (f := .free "abs") rfl)
  f_int := He.free_ok X G (c.d.fact 26 (f := .free "int") rfl)
  f_range := He.free_ok X G (c.d.fact 27 (f := .free "range") rfl)
  f_ValueError := He.free_ok X G (c.d.fact 28 (f := .free "ValueError") rfl)
  f_bool := He.free_ok X G (c.d.fact 29 (f := .free "bool") rfl)
  f_min := He.free_ok X G (c.d.fact 30 (f := .free "min") rfl)
  f_max := He.free_ok X G (c.d.fact 31 (f := .free "max") rfl)
  v_LETTERS_kinds := by obtain ⟨t, e⟩ := He.str_ok X G (c.d.fact 32 (f := .str "LETTERS_kinds" "abcdefghijklmnopqrstuvwxyz") rfl); exact ⟨_, e, ⟨t, rfl⟩⟩
  v_NAME_SIGNS := by obtain ⟨t, e⟩ := He.str_ok X G (c.d.fact 33 (f := .str "_NAME_SIGNS" "abcdefghijklmnopqrstuvwxyz0123456789_") rfl); exact ⟨_, e, ⟨t, rfl⟩⟩
  v_NAME_LENGTH := by obtain ⟨t, e⟩ := He.int_ok X G (c.d.fact 34 (f := .int "_NAME_LENGTH" 16) rfl); exact ⟨_, e, ⟨t, rfl⟩⟩
  v_RESERVED := ⟨_, He.glo_ok X G (c.d.fact 35 (f := .glo "_RESERVED") rfl), rfl⟩
  v_MAX_TEXT := by obtain ⟨t, e⟩ := He.int_ok X G (c.d.fact 36 (f := .int "_MAX_TEXT" 20000) rfl); exact ⟨_, e, ⟨t, rfl⟩⟩
  v_LETTERS_lexer := by obtain ⟨t, e⟩ := He.str_ok X G (c.d.fact 37 (f := .str "LETTERS_lexer" "abcdefghijklmnopqrstuvwxyz") rfl); exact ⟨_, e, ⟨t, rfl⟩⟩
  v_WORD_SIGNS := by obtain ⟨t, e⟩ := He.str_ok X G (c.d.fact 38 (f := .str "_WORD_SIGNS" "abcdefghijklmnopqrstuvwxyz0123456789_") rfl); exact ⟨_, e, ⟨t, rfl⟩⟩
  v_WORDS := ⟨_, He.glo_ok X G (c.d.fact 39 (f := .glo "_WORDS") rfl), rfl⟩
  v_LONG_SIGNS := ⟨_, He.glo_ok X G (c.d.fact 40 (f := .glo "_LONG_SIGNS") rfl), rfl⟩
  v_SHORT_SIGNS := ⟨_, He.glo_ok X G (c.d.fact 41 (f := .glo "_SHORT_SIGNS") rfl), rfl⟩
  v_HallError := ⟨_, He.glo_ok X G (c.d.fact 42 (f := .glo "HallError") rfl), rfl⟩
  g_HallError := He.glo_ok X G (c.d.fact 42 (f := .glo "HallError") rfl)
  v_InvalidText := ⟨_, He.glo_ok X G (c.d.fact 43 (f := .glo "InvalidText") rfl), rfl⟩
  g_InvalidText := He.glo_ok X G (c.d.fact 43 (f := .glo "InvalidText") rfl)
  v_TooLarge := ⟨_, He.glo_ok X G (c.d.fact 44 (f := .glo "TooLarge") rfl), rfl⟩
  g_TooLarge := He.glo_ok X G (c.d.fact 44 (f := .glo "TooLarge") rfl)
  x_InvalidText_InvalidText := He.exm_ok (c.d.fact 45 (f := .exm "InvalidText" "InvalidText" true) rfl)
  x_TooLarge_InvalidText := He.exm_ok (c.d.fact 46 (f := .exm "TooLarge" "InvalidText" false) rfl)
  x_TooLarge_TooLarge := He.exm_ok (c.d.fact 47 (f := .exm "TooLarge" "TooLarge" true) rfl)
  t_RESERVED := fun H => He.tupB_ok (exl_at c.more 0 rfl) H
  t_WORDS := fun H => He.tupB_ok (exl_at c.more 1 rfl) H
  t_LONG_SIGNS := fun H => He.tupB_ok (exl_at c.more 2 rfl) H
  t_SHORT_SIGNS := fun H => He.tupB_ok (exl_at c.more 3 rfl) H
  h_InvalidText := (HallHd.hall_of (prog := PySem.Challenge.pw_lemmahall_k12_tokens_and_places) (d := h_InvalidText) X G (c.hall 0 rfl) (exl_at c.more 4 rfl) (by decide +kernel)).1
  e_InvalidText := (HallHd.hall_of (prog := PySem.Challenge.pw_lemmahall_k12_tokens_and_places) (d := h_InvalidText) X G (c.hall 0 rfl) (exl_at c.more 4 rfl) (by decide +kernel)).2
  h_TooLarge := (HallHd.hall_of (prog := PySem.Challenge.pw_lemmahall_k12_tokens_and_places) (d := h_TooLarge) X G (c.hall 1 rfl) (exl_at c.more 5 rfl) (by decide +kernel)).1
  e_TooLarge := (HallHd.hall_of (prog := PySem.Challenge.pw_lemmahall_k12_tokens_and_places) (d := h_TooLarge) X G (c.hall 1 rfl) (exl_at c.more 5 rfl) (by decide +kernel)).2
  n_InvalidText := HallHd.noFld_ok (d := h_InvalidText) (exl_at c.more 6 rfl)
  n_TooLarge := HallHd.noFld_ok (d := h_TooLarge) (exl_at c.more 7 rfl)
  k_InvalidText_TooLarge := of_decide_eq_true (exl_at c.more 8 rfl)
  k_InvalidText_HallError := of_decide_eq_true (exl_at c.more 9 rfl)
  k_InvalidText_ValueError := of_decide_eq_true (exl_at c.more 10 rfl)
abbrev Fn_is_name (K : PySem.W.Frag) (fd : FuncData) : Prop := FunD K "is_name" "is_name" (defArgs s_is_name) (defBody s_is_name) (defScope s_is_name) [] [] (He.ga K "is_name") fd
abbrev Fn_tokens (K : PySem.W.Frag) (fd : FuncData) : Prop := FunD K "tokens" "tokens" (defArgs s_tokens) (defBody s_tokens) (defScope s_tokens) [] [] (He.ga K "tokens") fd
abbrev Fn_token_at (K : PySem.W.Frag) (fd : FuncData) : Prop := FunD K "_token_at" "_token_at" (defArgs s_token_at) (defBody s_token_at) (defScope s_token_at) [] [] (He.ga K "_token_at") fd
abbrev Fn_word_at (K : PySem.W.Frag) (fd : FuncData) : Prop := FunD K "_word_at" "_word_at" (defArgs s_word_at) (defBody s_word_at) (defScope s_word_at) [] [] (He.ga K "_word_at") fd
abbrev Fn_law_dice (K : PySem.W.Frag) (fd : FuncData) : Prop := FunD K "_law_dice" "_law_dice" (defArgs s_law_dice) (defBody s_law_dice) (defScope s_law_dice) [] [] (He.ga K "_law_dice") fd
abbrev Fn_law_draw (K : PySem.W.Frag) (fd : FuncData) : Prop := FunD K "_law_draw" "_law_draw" (defArgs s_law_draw) (defBody s_law_draw) (defScope s_law_draw) [] [] (He.ga K "_law_draw") fd
abbrev Fn_law_name (K : PySem.W.Frag) (fd : FuncData) : Prop := FunD K "_law_name" "_law_name" (defArgs s_law_name) (defBody s_law_name) (defScope s_law_name) [] [] (He.ga K "_law_name") fd
abbrev Fn_law_token (K : PySem.W.Frag) (fd : FuncData) : Prop := FunD K "_law_token" "_law_token" (defArgs s_law_token) (defBody s_law_token) (defScope s_law_token) [] [] (He.ga K "_law_token") fd
abbrev Fn_law_bad (K : PySem.W.Frag) (fd : FuncData) : Prop := FunD K "_law_bad" "_law_bad" (defArgs s_law_bad) (defBody s_law_bad) (defScope s_law_bad) [] [] (He.ga K "_law_bad") fd
abbrev Fn_law_sticks (K : PySem.W.Frag) (fd : FuncData) : Prop := FunD K "_law_sticks" "_law_sticks" (defArgs s_law_sticks) (defBody s_law_sticks) (defScope s_law_sticks) [] [] (He.ga K "_law_sticks") fd
abbrev Fn_law_joined (K : PySem.W.Frag) (fd : FuncData) : Prop := FunD K "_law_joined" "_law_joined" (defArgs s_law_joined) (defBody s_law_joined) (defScope s_law_joined) [] [] (He.ga K "_law_joined") fd
abbrev Fn_law_changed (K : PySem.W.Frag) (fd : FuncData) : Prop := FunD K "_law_changed" "_law_changed" (defArgs s_law_changed) (defBody s_law_changed) (defScope s_law_changed) [] [] (He.ga K "_law_changed") fd
abbrev Fn_law_signs (K : PySem.W.Frag) (fd : FuncData) : Prop := FunD K "_law_signs" "_law_signs" (defArgs s_law_signs) (defBody s_law_signs) (defScope s_law_signs) [] [] (He.ga K "_law_signs") fd
abbrev Fn_law_long (K : PySem.W.Frag) (fd : FuncData) : Prop := FunD K "_law_long" "_law_long" (defArgs s_law_long) (defBody s_law_long) (defScope s_law_long) [] [] (He.ga K "_law_long") fd
abbrev Fn_law_size (K : PySem.W.Frag) (fd : FuncData) : Prop := FunD K "_law_size" "_law_size" (defArgs s_law_size) (defBody s_law_size) (defScope s_law_size) [] [] (He.ga K "_law_size") fd
abbrev Fn_law_scan (K : PySem.W.Frag) (fd : FuncData) : Prop := FunD K "_law_scan" "_law_scan" (defArgs s_law_scan) (defBody s_law_scan) (defScope s_law_scan) [] [] (He.ga K "_law_scan") fd
abbrev Fn_law_asked (K : PySem.W.Frag) (fd : FuncData) : Prop := FunD K "_law_asked" "_law_asked" (defArgs s_law_asked) (defBody s_law_asked) (defScope s_law_asked) [] [] (He.ga K "_law_asked") fd
abbrev Fn_law_is_integer (K : PySem.W.Frag) (fd : FuncData) : Prop := FunD K "_law_is_integer" "_law_is_integer" (defArgs s_law_is_integer) (defBody s_law_is_integer) (defScope s_law_is_integer) [] [] (He.ga K "_law_is_integer") fd
abbrev Fn_law_agrees (K : PySem.W.Frag) (fd : FuncData) : Prop := FunD K "_law_agrees" "_law_agrees" (defArgs s_law_agrees) (defBody s_law_agrees) (defScope s_law_agrees) [] [] (He.ga K "_law_agrees") fd
abbrev Fn_law_round (K : PySem.W.Frag) (fd : FuncData) : Prop := FunD K "_law_round" "_law_round" (defArgs s_law_round) (defBody s_law_round) (defScope s_law_round) [] [] (He.ga K "_law_round") fd
abbrev Fn_law (K : PySem.W.Frag) (fd : FuncData) : Prop := FunD K "law" "law" (defArgs s_law) (defBody s_law) (defScope s_law) [] [] (He.ga K "law") fd
theorem sc_is_name : FnScope ["word", "sign"] ["word"] (defScope s_is_name) := ⟨rfl, rfl, rfl, by decide +kernel, rfl, by decide +kernel, by decide +kernel⟩
theorem b_is_name {K : PySem.W.Frag} {fd : FuncData} (F : Fn_is_name K fd) : Binds K fd ["word"] [] := F.bindsN fun _ _ _ _ _ _ us hl => match us, hl with | [_], _ => rfl
theorem sc_tokens : FnScope ["text", "found", "place", "token"] ["text"] (defScope s_tokens) := ⟨rfl, rfl, rfl, by decide +kernel, rfl, by decide +kernel, by decide +kernel⟩
theorem b_tokens {K : PySem.W.Frag} {fd : FuncData} (F : Fn_tokens K fd) : Binds K fd ["text"] [] := F.bindsN fun _ _ _ _ _ _ us hl => match us, hl with | [_], _ => rfl
theorem sc_token_at : FnScope ["text", "place", "word", "pair"] ["text", "place"] (defScope s_token_at) := ⟨rfl, rfl, rfl, by decide +kernel, rfl, by decide +kernel, by decide +kernel⟩
theorem b_token_at {K : PySem.W.Frag} {fd : FuncData} (F : Fn_token_at K fd) : Binds K fd ["text", "place"] [] := F.bindsN fun _ _ _ _ _ _ us hl => match us, hl with | [_, _], _ => rfl
theorem sc_word_at : FnScope ["text", "place", "end"] ["text", "place"] (defScope s_word_at) := ⟨rfl, rfl, rfl, by decide +kernel, rfl, by decide +kernel, by decide +kernel⟩
theorem b_word_at {K : PySem.W.Frag} {fd : FuncData} (F : Fn_word_at K fd) : Binds K fd ["text", "place"] [] := F.bindsN fun _ _ _ _ _ _ us hl => match us, hl with | [_, _], _ => rfl
theorem sc_law_dice : FnScope ["script", "k", "cell", "rest", "first"] ["script", "k"] (defScope s_law_dice) := ⟨rfl, rfl, rfl, by decide +kernel, rfl, by decide +kernel, by decide +kernel⟩
theorem b_law_dice {K : PySem.W.Frag} {fd : FuncData} (F : Fn_law_dice K fd) : Binds K fd ["script", "k"] [] := F.bindsN fun _ _ _ _ _ _ us hl => match us, hl with | [_, _], _ => rfl
theorem sc_law_draw : FnScope ["dice", "size", "found"] ["dice", "size"] (defScope s_law_draw) := ⟨rfl, rfl, rfl, by decide +kernel, rfl, by decide +kernel, by decide +kernel⟩
theorem b_law_draw {K : PySem.W.Frag} {fd : FuncData} (F : Fn_law_draw K fd) : Binds K fd ["dice", "size"] [] := F.bindsN fun _ _ _ _ _ _ us hl => match us, hl with | [_, _], _ => rfl
theorem sc_law_name : FnScope ["dice", "size", "letters", "more", "word", "k"] ["dice", "size"] (defScope s_law_name) := ⟨rfl, rfl, rfl, by decide +kernel, rfl, by decide +kernel, by decide +kernel⟩
theorem b_law_name {K : PySem.W.Frag} {fd : FuncData} (F : Fn_law_name K fd) : Binds K fd ["dice", "size"] [] := F.bindsN fun _ _ _ _ _ _ us hl => match us, hl with | [_, _], _ => rfl
theorem sc_law_token : FnScope ["dice", "choice", "signs"] ["dice"] (defScope s_law_token) := ⟨rfl, rfl, rfl, by decide +kernel, rfl, by decide +kernel, by decide +kernel⟩
theorem b_law_token {K : PySem.W.Frag} {fd : FuncData} (F : Fn_law_token K fd) : Binds K fd ["dice"] [] := F.bindsN fun _ _ _ _ _ _ us hl => match us, hl with | [_], _ => rfl
theorem sc_law_bad : FnScope ["dice", "odd"] ["dice"] (defScope s_law_bad) := ⟨rfl, rfl, rfl, by decide +kernel, rfl, by decide +kernel, by decide +kernel⟩
theorem b_law_bad {K : PySem.W.Frag} {fd : FuncData} (F : Fn_law_bad K fd) : Binds K fd ["dice"] [] := F.bindsN fun _ _ _ _ _ _ us hl => match us, hl with | [_], _ => rfl
theorem sc_law_sticks : FnScope ["last", "word", "letters"] ["last", "word"] (defScope s_law_sticks) := ⟨rfl, rfl, rfl, by decide +kernel, rfl, by decide +kernel, by decide +kernel⟩
theorem b_law_sticks {K : PySem.W.Frag} {fd : FuncData} (F : Fn_law_sticks K fd) : Binds K fd ["last", "word"] [] := F.bindsN fun _ _ _ _ _ _ us hl => match us, hl with | [_, _], _ => rfl
theorem sc_law_joined : FnScope ["dice", "words", "bad", "text", "rows", "last", "k", "blanks"] ["dice", "words", "bad"] (defScope s_law_joined) := ⟨rfl, rfl, rfl, by decide +kernel, rfl, by decide +kernel, by decide +kernel⟩
theorem b_law_joined {K : PySem.W.Frag} {fd : FuncData} (F : Fn_law_joined K fd) : Binds K fd ["dice", "words", "bad"] [] := F.bindsN fun _ _ _ _ _ _ us hl => match us, hl with | [_, _, _], _ => rfl
theorem sc_law_changed : FnScope ["dice", "text", "chars", "way", "char", "spot"] ["dice", "text"] (defScope s_law_changed) := ⟨rfl, rfl, rfl, by decide +kernel, rfl, by decide +kernel, by decide +kernel⟩
theorem b_law_changed {K : PySem.W.Frag} {fd : FuncData} (F : Fn_law_changed K fd) : Binds K fd ["dice", "text"] [] := F.bindsN fun _ _ _ _ _ _ us hl => match us, hl with | [_, _], _ => rfl
theorem sc_law_signs : FnScope ["dice", "chars", "text", "k"] ["dice"] (defScope s_law_signs) := ⟨rfl, rfl, rfl, by decide +kernel, rfl, by decide +kernel, by decide +kernel⟩
theorem b_law_signs {K : PySem.W.Frag} {fd : FuncData} (F : Fn_law_signs K fd) : Binds K fd ["dice"] [] := F.bindsN fun _ _ _ _ _ _ us hl => match us, hl with | [_], _ => rfl
theorem sc_law_long : FnScope ["dice", "text", "total", "fill"] ["dice", "text"] (defScope s_law_long) := ⟨rfl, rfl, rfl, by decide +kernel, rfl, by decide +kernel, by decide +kernel⟩
theorem b_law_long {K : PySem.W.Frag} {fd : FuncData} (F : Fn_law_long K fd) : Binds K fd ["dice", "text"] [] := F.bindsN fun _ _ _ _ _ _ us hl => match us, hl with | [_, _], _ => rfl
theorem sc_law_size : FnScope ["text", "spot", "letters", "more", "size", "k"] ["text", "spot"] (defScope s_law_size) := ⟨rfl, rfl, rfl, by decide +kernel, rfl, by decide +kernel, by decide +kernel⟩
theorem b_law_size {K : PySem.W.Frag} {fd : FuncData} (F : Fn_law_size K fd) : Binds K fd ["text", "spot"] [] := F.bindsN fun _ _ _ _ _ _ us hl => match us, hl with | [_, _], _ => rfl
theorem sc_law_scan : FnScope ["text", "rows", "end", "spot", "size"] ["text"] (defScope s_law_scan) := ⟨rfl, rfl, rfl, by decide +kernel, rfl, by decide +kernel, by decide +kernel⟩
theorem b_law_scan {K : PySem.W.Frag} {fd : FuncData} (F : Fn_law_scan K fd) : Binds K fd ["text"] [] := F.bindsN fun _ _ _ _ _ _ us hl => match us, hl with | [_], _ => rfl
theorem sc_law_asked : FnScope ["text", "e"] ["text"] (defScope s_law_asked) := ⟨rfl, rfl, rfl, by decide +kernel, rfl, by decide +kernel, by decide +kernel⟩
theorem b_law_asked {K : PySem.W.Frag} {fd : FuncData} (F : Fn_law_asked K fd) : Binds K fd ["text"] [] := F.bindsN fun _ _ _ _ _ _ us hl => match us, hl with | [_], _ => rfl
theorem sc_law_is_integer : FnScope ["actual"] ["actual"] (defScope s_law_is_integer) := ⟨rfl, rfl, rfl, by decide +kernel, rfl, by decide +kernel, by decide +kernel⟩
theorem b_law_is_integer {K : PySem.W.Frag} {fd : FuncData} (F : Fn_law_is_integer K fd) : Binds K fd ["actual"] [] := F.bindsN fun _ _ _ _ _ _ us hl => match us, hl with | [_], _ => rfl
theorem sc_law_agrees : FnScope ["actual", "due", "told", "k", "row"] ["actual", "due"] (defScope s_law_agrees) := ⟨rfl, rfl, rfl, by decide +kernel, rfl, by decide +kernel, by decide +kernel⟩
theorem b_law_agrees {K : PySem.W.Frag} {fd : FuncData} (F : Fn_law_agrees K fd) : Binds K fd ["actual", "due"] [] := F.bindsN fun _ _ _ _ _ _ us hl => match us, hl with | [_, _], _ => rfl
theorem sc_law_round : FnScope ["dice", "mode", "words", "bad", "made", "text", "due", "k"] ["dice"] (defScope s_law_round) := ⟨rfl, rfl, rfl, by decide +kernel, rfl, by decide +kernel, by decide +kernel⟩
theorem b_law_round {K : PySem.W.Frag} {fd : FuncData} (F : Fn_law_round K fd) : Binds K fd ["dice"] [] := F.bindsN fun _ _ _ _ _ _ us hl => match us, hl with | [_], _ => rfl
theorem sc_law : FnScope ["script", "k"] ["script"] (defScope s_law) := ⟨rfl, rfl, rfl, by decide +kernel, rfl, by decide +kernel, by decide +kernel⟩
theorem b_law {K : PySem.W.Frag} {fd : FuncData} (F : Fn_law K fd) : Binds K fd ["script"] [] := F.bindsN fun _ _ _ _ _ _ us hl => match us, hl with | [_], _ => rfl
end K12
/-! The plain law: tokens -/
namespace K12
open PySem
def LET : List Nat := [97,98,99,100,101,102,103,104,105,106,107,108,109,110,111,112,113,114,115,116,117,118,119,120,121,122]
def WS : List Nat := LET ++ [48,49,50,51,52,53,54,55,56,57,95]
theorem tl_let : (Str.ofString "abcdefghijklmnopqrstuvwxyz").cps.toList = LET := by decide +kernel
theorem tl_ws : (Str.ofString "abcdefghijklmnopqrstuvwxyz0123456789_").cps.toList = WS := by decide +kernel
def wlen (l : List Nat) : Nat := (l.takeWhile (fun c => decide (c ∈ WS))).length
def longs : List (List Nat) := [[61, 62], [45, 62], [124, 45]]
def shorts : List Nat := [40, 41, 58, 46, 44, 39, 61, 38, 124, 126]
/-- the length of the token that begins here; 0: none -/
def tk (l : List Nat) : Nat := match l with
  | [] => 0
  | c :: _ => if c ∈ LET then (if wlen l ≤ 16 then wlen l else 0) else if l.take 2 ∈ longs then 2 else if c ∈ shorts then 1 else 0
def lex : Nat → List Nat → Nat → List (List Nat × Nat) × Option Nat
  | 0, _, _ => ([], none)
  | _ + 1, [], _ => ([], none)
  | k + 1, c :: r, p => if c = 32 then lex k r (p + 1) else
      if tk (c :: r) = 0 then ([], some p) else
        (((c :: r).take (tk (c :: r)), p) :: (lex k ((c :: r).drop (tk (c :: r))) (p + tk (c :: r))).1, (lex k ((c :: r).drop (tk (c :: r))) (p + tk (c :: r))).2)
def LX (l : List Nat) (p : Nat) : List (List Nat × Nat) × Option Nat := lex l.length l p
theorem lex_more : ∀ (k k' : Nat) (l : List Nat) (p : Nat), l.length ≤ k → l.length ≤ k' → lex k l p = lex k' l p
  | 0, 0, _, _, _, _ => rfl
  | 0, k' + 1, [], _, _, _ => rfl
  | 0, _ + 1, _ :: _, _, h, _ => by simp at h
  | k + 1, 0, [], _, _, _ => rfl
  | _ + 1, 0, _ :: _, _, _, h => by simp at h
  | k + 1, k' + 1, [], _, _, _ => rfl
  | k + 1, k' + 1, c :: r, p, h, h' => by
    have h1 : r.length ≤ k := by simpa using h
    have h2 : r.length ≤ k' := by simpa using h'
    unfold lex
    rw [lex_more k k' r (p + 1) h1 h2]
    by_cases e : tk (c :: r) = 0
    · rw [if_pos e, if_pos e]
    · have hl : ((c :: r).drop (tk (c :: r))).length ≤ r.length := by
        rw [List.length_drop, List.length_cons]; omega
      rw [lex_more k k' _ (p + tk (c :: r)) (Nat.le_trans hl h1) (Nat.le_trans hl h2)]
theorem LX_nil (p : Nat) : LX [] p = ([], none) := rfl
theorem LX_sp (r : List Nat) (p : Nat) : LX (32 :: r) p = LX r (p + 1) := by
  show lex (r.length + 1) (32 :: r) p = _
  unfold lex
  rw [if_pos rfl]; rfl
theorem LX_bad {c : Nat} {r : List Nat} {p : Nat} (h : c ≠ 32) (e : tk (c :: r) = 0) : LX (c :: r) p = ([], some p) := by
  show lex (r.length + 1) (c :: r) p = _
  unfold lex
  rw [if_neg h, if_pos e]
theorem LX_tok {c : Nat} {r : List Nat} {p : Nat} (h : c ≠ 32) (e : tk (c :: r) ≠ 0) :
    LX (c :: r) p = (((c :: r).take (tk (c :: r)), p) :: (LX ((c :: r).drop (tk (c :: r))) (p + tk (c :: r))).1, (LX ((c :: r).drop (tk (c :: r))) (p + tk (c :: r))).2) := by
  have hl : ((c :: r).drop (tk (c :: r))).length ≤ r.length := by
    rw [List.length_drop, List.length_cons]; omega
  show lex (r.length + 1) (c :: r) p = _
  unfold lex
  rw [if_neg h, if_neg e, lex_more r.length _ _ (p + tk (c :: r)) hl (Nat.le_refl _)]
  rfl
theorem wlen_le (l : List Nat) : wlen l ≤ l.length := by
  unfold wlen
  exact (List.takeWhile_sublist _).length_le
theorem tk_le (l : List Nat) : tk l ≤ l.length := by
  cases l with
  | nil => exact Nat.le_refl _
  | cons c r =>
    unfold tk
    simp only
    split
    · split
      · exact wlen_le _
      · exact Nat.zero_le _
    · split
      · rename_i h
        have : ((c :: r).take 2).length = 2 := by
          unfold longs at h
          simp only [List.mem_cons, List.not_mem_nil, or_false] at h
          rcases h with h | h | h <;> rw [h] <;> rfl
        rw [List.length_take] at this
        omega
      · split
        · simp
        · exact Nat.zero_le _
end K12

namespace K12
open PySem PySem.Spec PyProof.Rows L2 SX
local macro_rules | `(tactic| walk_at "w1") => `(tactic| (first
  | with_reducible refine w_seq ?_ | with_reducible refine w_asgN ?_ | with_reducible refine w_c ?_
  | ((with_reducible refine' w_var ?wv ?_); (case wv => exact rfl))
  | with_reducible refine w_op ?_ | with_reducible refine w_un ?_ | with_reducible refine w_next ?_ | with_reducible refine w_brk ?_ | with_reducible refine w_cnt ?_
  | with_reducible refine w_ifS ?_ | with_reducible refine w_if ?_ | with_reducible refine w_test ?_ | with_reducible refine w_tB ?_ | with_reducible refine w_bl ?_ | with_reducible refine w_blI ?_
  | with_reducible refine w_and ?_ | with_reducible refine w_or ?_ | with_reducible refine w_not ?_ | with_reducible refine w_andV ?_ | with_reducible refine w_orV ?_ | with_reducible refine w_notV ?_
  | with_reducible refine w_nil ?_ | with_reducible refine w_cons ?_ | with_reducible refine w_cb ?_ | with_reducible refine w_call ?_ | with_reducible refine w_callS ?_ | with_reducible refine w_chain ?_
  | with_reducible refine w_tup ?_ | with_reducible refine w_lst ?_ | with_reducible refine w_sl ?_ | with_reducible refine w_noPart ?_ | with_reducible refine w_part ?_ | with_reducible refine w_partI ?_
  | with_reducible refine w_ret ?_ | with_reducible refine w_retN ?_ | with_reducible refine w_drop ?_ | with_reducible refine w_asg ?_ | with_reducible refine w_gSub ?_
  | ((with_reducible refine' w_aug ?wv ?_); (case wv => exact rfl)) | with_reducible refine w_ipI ?_
  | with_reducible refine w_addI ?_ | with_reducible refine w_subI ?_ | with_reducible refine w_ltI ?_ | with_reducible refine w_leI ?_ | with_reducible refine w_gtI ?_ | with_reducible refine w_geI ?_
  | with_reducible refine w_eqI ?_ | with_reducible refine w_neI ?_ | with_reducible refine w_eqT ?_ | with_reducible refine w_neT ?_ | with_reducible refine w_inS ?_ | with_reducible refine w_ninS ?_
  | with_reducible refine w_absI ?_ | with_reducible refine w_intI ?_ | with_reducible refine w_maxI ?_ | with_reducible refine w_minI ?_
  | with_reducible refine w_for ?_ | with_reducible refine w_iR1 ?_ | with_reducible refine w_iR2 ?_ | with_reducible refine w_iStr ?_ | with_reducible refine w_strI ?_ | with_reducible refine w_iList ?_ | with_reducible refine w_iTup ?_
  | with_reducible refine w_bm ?_ | with_reducible refine w_bm0 ?_ | with_reducible refine w_t ?_ | with_reducible refine w_f ?_ | with_reducible refine w_nt ?_ | with_reducible refine w_nx ?_ | with_reducible refine w_rt ?_ | with_reducible refine w_bk ?_ | with_reducible refine w_ct ?_ | with_reducible refine w_nf ?_))
local macro_rules | `(tactic| walk_at "w") => `(tactic| (repeat (first | walk_at "w1" | dsimp (config := { proj := false }) only [List.set_cons_zero, List.set_cons_succ])))
section
variable {w : World} {K : PySem.W.Frag} {mg : Str → Option Value} {base : Heap}

def RES : List (List Nat) := [[97,108,108],[115,111,109,101],[108,97,109],[116,114,117,101],[102,97,108,115,101],[98,111,111,108]]
theorem tb_res (K : PySem.W.Frag) : tb_RESERVED.map (He.Dv.v K) = RES.map fun r => V.str (S r) := by
  show [V.str _, V.str _, V.str _, V.str _, V.str _, V.str _] = [V.str _, V.str _, V.str _, V.str _, V.str _, V.str _]
  decide +kernel
def isName (l : List Nat) : Bool := decide ((1 ≤ l.length ∧ l.length ≤ 16) ∧ l ∉ RES ∧ (∃ c, l[0]? = some c ∧ c ∈ LET) ∧ ∀ c ∈ l, c ∈ WS)
def sp_is_name : Sp := sp1 fun a H Q _ => ∃ l : List Nat, a = .str (S l) ∧ l.length ≤ 100000 ∧ Q (.bl (isName l)) H
theorem ok_is_name (T : Txt K mg) {fd : FuncData} (F : Fn_is_name K fd) (hm : mg "is_name" = some (.ref (He.ga K "is_name")))  : CalX P w K mg base CX0 1 "is_name" sp_is_name := by
  refine calx0 (k := 0) F hm sc_is_name (b_is_name F) (fun _ _ _ _ h => sp1_len h) (fun cdv A outer s H vs Q E hr h => ?_)
  obtain ⟨x0, rfl, h⟩ := h
  refine ⟨_, (pss_cons (ps_if (PW.pt (pw_or (pt_not (pt_val (pe_callB call_isi (by rfl) T.f_isinstance (by decide +kernel) (pa_cons (pv 0) (pa_cons (pe_bltn (v := .ty "str") (by rfl) T.f_str (by decide +kernel) rfl) pa_nil))))) (pw_or1 (pt_not (pt_chain op_leI op_leI pe_int (pe_callB call_lenT (by rfl) T.f_len PySem.boot_len (pa_cons (pv 0) pa_nil)) (pe_gv T.v_NAME_LENGTH))))))
    (pss_one (ps_ret pe_bl))
    pss_nil)
    (pss_cons (ps_if (PW.pt (pw_or (pt_cmpR op_in_seq (pv 0) (pe_gv T.v_RESERVED) rfl) (pw_or1 (pt_cmpR op_notInC (pe_ix ix_str (pv 0) pe_int (fun _ _ => rfl)) (pe_gv T.v_LETTERS_kinds) rfl))))
    (pss_one (ps_ret pe_bl))
    pss_nil)
    (pss_cons (ps_for PassesOwn.never rfl (pi_str (pv 0)) (pg_name (i := 1) sc_is_name.nd rfl (Or.inl rfl))
    (pss_one (ps_if (pt_cmpR op_notInC (pv 1) (pe_gv T.v_NAME_SIGNS) rfl)
    (pss_one (ps_ret pe_bl))
    pss_nil)))
    (pss_one (ps_ret pe_bl))))), ?_⟩
  rw [show start ["word", "sign"] [x0] = [some x0, none] from rfl]
  obtain ⟨l, rfl, hl, hQ⟩ := h
  have hz : l.length ≤ sizeLine := Nat.le_trans hl (by decide)
  have no : isName l = false → Q (.bl false) H := fun e => e ▸ hQ
  rw [S_ofs tl_let, S_ofs tl_ws]
  dsimp only [cxOf]
  walk_at "w"
  refine w_isi (.base (.str _)) kit_ss ?_
  walk_at "w"
  refine w_lenS hz ?_
  walk_at "w"
  refine w_dec (fun h1 => ?_) (fun h1 => ?_)
  · walk_at "w"
    refine w_ndec (fun h2 => ?_) (fun h2 => ?_)
    · walk_at "w"
      exact no (by unfold isName; exact decide_eq_false fun z => h2 (by have := z.1.2; omega))
    walk_at "w"
    refine w_inTab (T.t_RESERVED _) (tb_res K) ?_
    walk_at "w"
    refine w_dec (fun h3 => ?_) (fun h3 => ?_)
    · walk_at "w"
      exact no (by unfold isName; exact decide_eq_false fun z => z.2.1 h3)
    walk_at "w"
    obtain ⟨c, hc⟩ : ∃ c, l[0]? = some c := by
      cases l with
      | nil => simp at h1
      | cons c r => exact ⟨c, rfl⟩
    refine w_ixS (n := 0) hz hc ?_
    walk_at "w"
    refine w_ndec (fun h4 => ?_) (fun h4 => ?_)
    · walk_at "w"
      refine no ?_
      unfold isName
      refine decide_eq_false fun z => ?_
      obtain ⟨c', hc', h5⟩ := z.2.2.1
      rw [hc] at hc'; cases hc'
      exact h4 h5
    walk_at "w"
    refine for_str (fun i σ H' => H' = H ∧ (∃ v, σ = [some (.str (S l)), v]) ∧ ∀ j, j < i → ∀ c, l[j]? = some c → c ∈ WS) ⟨rfl, ⟨_, rfl⟩, fun j hj => absurd hj (Nat.not_lt_zero _)⟩ ?_ ?_
    · rintro i d σ H' hd ⟨rfl, ⟨v, rfl⟩, hj⟩
      dsimp only [gName]
      walk_at "w"
      refine w_ndec (fun h5 => ?_) (fun h5 => ?_)
      · walk_at "w"
        exact no (by unfold isName; exact decide_eq_false fun z => h5 (z.2.2.2 d (List.mem_of_getElem? hd)))
      · walk_at "w"
        refine ⟨rfl, ⟨_, rfl⟩, fun j hj' c hc' => ?_⟩
        by_cases e : j = i
        · subst e; rw [hd] at hc'; cases hc'; exact h5
        · exact hj j (by omega) c hc'
    · rintro σ H' ⟨rfl, ⟨v, rfl⟩, hj⟩
      walk_at "w"
      have e : isName l = true := by
        unfold isName
        refine decide_eq_true ⟨⟨by omega, by omega⟩, h3, ⟨c, hc, h4⟩, fun d hd => ?_⟩
        obtain ⟨j, hj1, hj2⟩ := List.getElem_of_mem hd
        exact hj j hj1 d (by rw [List.getElem?_eq_getElem hj1, hj2])
      rw [e] at hQ
      exact hQ
  · walk_at "w"
    exact no (by unfold isName; exact decide_eq_false fun z => h1 (by have := z.1.1; omega))

end
end K12

namespace K12
open PySem PySem.Spec PyProof.Rows L2 SX
local macro_rules | `(tactic| walk_at "w1") => `(tactic| (first
  | with_reducible refine w_seq ?_ | with_reducible refine w_asgN ?_ | with_reducible refine w_c ?_
  | ((with_reducible refine' w_var ?wv ?_); (case wv => exact rfl))
  | with_reducible refine w_op ?_ | with_reducible refine w_un ?_ | with_reducible refine w_next ?_ | with_reducible refine w_brk ?_ | with_reducible refine w_cnt ?_
  | with_reducible refine w_ifS ?_ | with_reducible refine w_if ?_ | with_reducible refine w_test ?_ | with_reducible refine w_tB ?_ | with_reducible refine w_bl ?_ | with_reducible refine w_blI ?_
  | with_reducible refine w_and ?_ | with_reducible refine w_or ?_ | with_reducible refine w_not ?_ | with_reducible refine w_andV ?_ | with_reducible refine w_orV ?_ | with_reducible refine w_notV ?_
  | with_reducible refine w_nil ?_ | with_reducible refine w_cons ?_ | with_reducible refine w_cb ?_ | with_reducible refine w_call ?_ | with_reducible refine w_callS ?_ | with_reducible refine w_chain ?_
  | with_reducible refine w_tup ?_ | with_reducible refine w_lst ?_ | with_reducible refine w_sl ?_ | with_reducible refine w_noPart ?_ | with_reducible refine w_part ?_ | with_reducible refine w_partI ?_
  | with_reducible refine w_ret ?_ | with_reducible refine w_retN ?_ | with_reducible refine w_drop ?_ | with_reducible refine w_asg ?_ | with_reducible refine w_gSub ?_
  | ((with_reducible refine' w_aug ?wv ?_); (case wv => exact rfl)) | with_reducible refine w_ipI ?_
  | with_reducible refine w_addI ?_ | with_reducible refine w_subI ?_ | with_reducible refine w_ltI ?_ | with_reducible refine w_leI ?_ | with_reducible refine w_gtI ?_ | with_reducible refine w_geI ?_
  | with_reducible refine w_eqI ?_ | with_reducible refine w_neI ?_ | with_reducible refine w_eqT ?_ | with_reducible refine w_neT ?_ | with_reducible refine w_inS ?_ | with_reducible refine w_ninS ?_
  | with_reducible refine w_absI ?_ | with_reducible refine w_intI ?_ | with_reducible refine w_maxI ?_ | with_reducible refine w_minI ?_
  | with_reducible refine w_for ?_ | with_reducible refine w_iR1 ?_ | with_reducible refine w_iR2 ?_ | with_reducible refine w_iStr ?_ | with_reducible refine w_strI ?_ | with_reducible refine w_iList ?_ | with_reducible refine w_iTup ?_
  | with_reducible refine w_bm ?_ | with_reducible refine w_bm0 ?_ | with_reducible refine w_t ?_ | with_reducible refine w_f ?_ | with_reducible refine w_nt ?_ | with_reducible refine w_nx ?_ | with_reducible refine w_rt ?_ | with_reducible refine w_bk ?_ | with_reducible refine w_ct ?_ | with_reducible refine w_nf ?_))
local macro_rules | `(tactic| walk_at "w") => `(tactic| (repeat (first | walk_at "w1" | dsimp (config := { proj := false }) only [List.set_cons_zero, List.set_cons_succ])))
section
variable {w : World} {K : PySem.W.Frag} {mg : Str → Option Value} {base : Heap}

/-! ### the classes -/
def okI (u : Value) : Prop := ∃ i t, u = .int i t ∧ i.natAbs.log2 < 1920
def okVI (v : V) : Prop := ∃ i, v = .int i ∧ i.natAbs.log2 < 1920
theorem okH : ∀ v u, RelV v u → okVI v → okI u := fun v u r h => by
  obtain ⟨i, rfl, h⟩ := h
  obtain ⟨t, rfl⟩ := r
  exact ⟨i, t, rfl, h⟩
theorem int_len {i : Int} (h : i.natAbs.log2 < 1920) : (Str.ofString (toString i)).length ≤ 2000 := by
  have e := int_text_length_le (k := 1920) (by decide) h
  rw [PySem.ofString_length]; omega
theorem j_InvalidText (w : World) : PySem.HallX.Init1 PySem.Challenge.pw_lemmahall_k12_tokens_and_places w "place" okI h_InvalidText.qual h_InvalidText.params h_InvalidText.body h_InvalidText.scope where
  head := ⟨_, rfl, rfl⟩
  bind := fun _ _ _ _ _ _ _ _ _ => rfl
  bd := ⟨_, _, _, _, _, _, _, _, _, _, _, rfl, fun L fI cc cd m v hv ⟨i, t, e, hi⟩ => by
      subst e
      exact PySem.HallX.msg_f2 rfl hv hi (Nat.le_trans (Nat.add_le_add_left (int_len hi) _) (by decide)) rfl rfl (by decide), fun _ _ => rfl, fun _ _ => rfl⟩
  hys := by decide
  hyd := by decide
  hks := rfl
  hkc := rfl
  hka := rfl
  hky := rfl
  hk := rfl
  hco := rfl
  hgen := rfl
  hcell := by decide +kernel
theorem j_TooLarge (w : World) : PySem.HallX.Init1 PySem.Challenge.pw_lemmahall_k12_tokens_and_places w "limit" okI h_TooLarge.qual h_TooLarge.params h_TooLarge.body h_TooLarge.scope where
  head := ⟨_, rfl, rfl⟩
  bind := fun _ _ _ _ _ _ _ _ _ => rfl
  bd := ⟨_, _, _, _, _, _, _, _, _, _, _, rfl, fun L fI cc cd m v hv ⟨i, t, e, hi⟩ => by
      subst e
      exact PySem.HallX.msg_f2 rfl hv hi (Nat.le_trans (Nat.add_le_add_left (int_len hi) _) (by decide)) rfl rfl (by decide), fun _ _ => rfl, fun _ _ => rfl⟩
  hys := by decide
  hyd := by decide
  hks := rfl
  hkc := rfl
  hka := rfl
  hky := rfl
  hk := rfl
  hco := rfl
  hgen := rfl
  hcell := by decide +kernel
/-! ### the defs -/
theorem tw_take {p : Nat → Bool} : ∀ (l : List Nat) (n : Nat), (∀ j, j < n → ∃ c, l[j]? = some c ∧ p c = true) → (∀ c, l[n]? = some c → p c = false) → l.takeWhile p = l.take n
  | [], n, _, _ => by simp
  | c :: r, 0, _, h => by
    rw [List.takeWhile_cons, h c rfl]; rfl
  | c :: r, n + 1, h1, h2 => by
    obtain ⟨c', e, hc⟩ := h1 0 (by omega)
    cases e
    rw [List.takeWhile_cons, hc, List.take_succ_cons, if_pos rfl, tw_take r n (fun j hj => h1 (j + 1) (by omega)) (fun c e => h2 c e)]
def sp_word_at : Sp := sp2 fun a b H Q _ => ∃ (l : List Nat) (p : Nat), a = .str (S l) ∧ b = .int p ∧ l.length ≤ 100000 ∧ p ≤ l.length ∧ Q (.str (S ((l.drop p).takeWhile (fun c => decide (c ∈ WS))))) H
theorem ok_word_at (T : Txt K mg) {fd : FuncData} (F : Fn_word_at K fd) (hm : mg "_word_at" = some (.ref (He.ga K "_word_at")))  : CalX P w K mg base CX0 1 "_word_at" sp_word_at := by
  refine calx0 (k := 0) F hm sc_word_at (b_word_at F) (fun _ _ _ _ h => sp2_len h) (fun cdv A outer s H vs Q E hr h => ?_)
  obtain ⟨x0, x1, rfl, h⟩ := h
  refine ⟨_, (pss_cons (ps_set (i := 2) sc_word_at.nd rfl (Or.inl rfl) (pv 1))
    (pss_cons (ps_while PassesOwn.never (PW.pt (pw_and (pt_cmpR op_ltI (pv 2) (pe_callB call_lenT (by rfl) T.f_len PySem.boot_len (pa_cons (pv 0) pa_nil)) (nomark _)) (pw_and1 (pt_cmpR op_inC (pe_ix ix_str (pv 0) (pv 2) (fun _ _ => rfl)) (pe_gv T.v_WORD_SIGNS) rfl))))
    (pss_one (ps_aug (i := 2) sc_word_at.nd rfl (Or.inl rfl) pe_int ip_add)))
    (pss_one (ps_ret (pe_slice sl_str (pv 0) (po_some (pv 1)) (po_some (pv 2))))))), ?_⟩
  rw [show start ["text", "place", "end"] [x0, x1] = [some x0, some x1, none] from rfl]
  obtain ⟨l, p, rfl, rfl, hl, hp, hQ⟩ := h
  have hz : l.length ≤ sizeLine := Nat.le_trans hl (by decide)
  rw [S_ofs tl_ws]
  try dsimp only [cxOf]
  walk_at "w"
  refine w_whl (fun m σ H' => H' = H ∧ ∃ e : Nat, m = l.length - e ∧ σ = [some (.str (S l)), some (.int (p : Int)), some (.int (e : Int))] ∧ p ≤ e ∧ e ≤ l.length ∧ ∀ j, j < e - p → ∃ c, (l.drop p)[j]? = some c ∧ decide (c ∈ WS) = true) _ ⟨rfl, p, rfl, rfl, Nat.le_refl _, hp, fun j hj => by omega⟩ ?_
  rintro m σ H' ⟨rfl, e, rfl, rfl, he, hle, hj⟩
  have fin : (∀ c, (l.drop p)[e - p]? = some c → decide (c ∈ WS) = false) → Q (.str (S ((l.drop p).take (e - p)))) H' := fun h => by
    rw [← tw_take _ _ hj h]; exact hQ
  walk_at "w"
  refine w_lenS hz ?_
  walk_at "w"
  refine w_dec (fun h1 => ?_) (fun h1 => ?_)
  · have h1' : e < l.length := by omega
    have hc : l[e]? = some l[e] := List.getElem?_eq_getElem h1'
    have hd : (l.drop p)[e - p]? = some l[e] := by rw [List.getElem?_drop, show p + (e - p) = e by omega]; exact hc
    walk_at "w"
    refine w_ixS hz hc ?_
    walk_at "w"
    refine w_dec (fun h2 => ?_) (fun h2 => ?_)
    · refine w_turn ?_
      walk_at "w"
      refine ⟨l.length - (e + 1), by omega, rfl, e + 1, rfl, rfl, by omega, by omega, fun j hj' => ?_⟩
      by_cases z : j = e - p
      · subst z; exact ⟨_, hd, decide_eq_true h2⟩
      · exact hj j (by omega)
    · walk_at "w"
      refine w_cutS hz ?_
      walk_at "w"
      exact fin fun c hc' => by rw [hd] at hc'; cases hc'; exact decide_eq_false h2
  · walk_at "w"
    refine w_cutS hz ?_
    walk_at "w"
    refine fin fun c hc' => ?_
    rw [List.getElem?_drop, List.getElem?_eq_none (by omega)] at hc'
    cases hc'

theorem let_ws {c : Nat} (h : c ∈ LET) : c ∈ WS := List.mem_append_left _ h
theorem tb_words (K : PySem.W.Frag) : tb_WORDS.map (He.Dv.v K) = RES.map fun r => V.str (S r) := tb_res K
theorem tb_long (K : PySem.W.Frag) : tb_LONG_SIGNS.map (He.Dv.v K) = longs.map fun r => V.str (S r) := by
  show [V.str _, V.str _, V.str _] = [V.str _, V.str _, V.str _]
  decide +kernel
theorem tb_short (K : PySem.W.Frag) : tb_SHORT_SIGNS.map (He.Dv.v K) = (shorts.map fun c => [c]).map fun r => V.str (S r) := by
  show [V.str _, V.str _, V.str _, V.str _, V.str _, V.str _, V.str _, V.str _, V.str _, V.str _] = [V.str _, V.str _, V.str _, V.str _, V.str _, V.str _, V.str _, V.str _, V.str _, V.str _]
  decide +kernel
theorem one_short {c : Nat} : [c] ∈ shorts.map (fun c => [c]) ↔ c ∈ shorts := by simp
theorem res_len {l : List Nat} (h : l ∈ RES) : l.length ≤ 16 := by
  revert l; decide
/-- the word that stands here, name or not -/
theorem word_ok {c : Nat} {r l : List Nat} (hc : c ∈ LET) (e : (c :: r).takeWhile (fun c => decide (c ∈ WS)) = l) : (isName l = true ∨ l ∈ RES) ↔ l.length ≤ 16 := by
  have hd : l[0]? = some c := by
    rw [← e, List.takeWhile_cons, if_pos (decide_eq_true (let_ws hc))]; rfl
  have h1 : 1 ≤ l.length := by
    cases l with
    | nil => simp at hd
    | cons a b => simp
  have hw : ∀ c ∈ l, c ∈ WS := fun d hd => by
    rw [← e] at hd
    have z := List.all_takeWhile (p := fun c => decide (c ∈ WS)) (l := c :: r)
    exact of_decide_eq_true (List.all_eq_true.mp z d hd)
  unfold isName
  rw [decide_eq_true_eq]
  constructor
  · rintro (h | h)
    · exact h.1.2
    · exact res_len h
  · intro h
    by_cases z : l ∈ RES
    · exact .inr z
    · exact .inl ⟨⟨h1, h⟩, z, ⟨c, hd, hc⟩, hw⟩
theorem take_tw {p : Nat → Bool} : ∀ l : List Nat, l.take (l.takeWhile p).length = l.takeWhile p
  | [] => rfl
  | c :: r => by
    rw [List.takeWhile_cons]
    split
    · rw [List.length_cons, List.take_succ_cons, take_tw r]
    · rfl
def sp_token_at : Sp := sp2 fun a b H Q _ => ∃ (l : List Nat) (p : Nat), a = .str (S l) ∧ b = .int p ∧ l.length ≤ 100000 ∧ p < l.length ∧ Q (.str (S ((l.drop p).take (tk (l.drop p))))) H
theorem ok_token_at (T : Txt K mg) {fd : FuncData} (F : Fn_token_at K fd) (hm : mg "_token_at" = some (.ref (He.ga K "_token_at"))) (c_word_at : CalX P w K mg base CX0 1 "_word_at" sp_word_at) (c_is_name : CalX P w K mg base CX0 1 "is_name" sp_is_name) : CalX P w K mg base CX0 2 "_token_at" sp_token_at := by
  refine calx0 (k := 1) F hm sc_token_at (b_token_at F) (fun _ _ _ _ h => sp2_len h) (fun cdv A outer s H vs Q E hr h => ?_)
  obtain ⟨x0, x1, rfl, h⟩ := h
  refine ⟨_, (pss_cons (ps_if (pt_cmpR op_inC (pe_ix ix_str (pv 0) (pv 1) (fun _ _ => rfl)) (pe_gv T.v_LETTERS_lexer) rfl)
    (pss_cons (ps_set (i := 2) sc_token_at.nd rfl (Or.inl rfl) (pe_cx c_word_at hr (by decide) rfl pass0 (pa_cons (pv 0) (pa_cons (pv 1) pa_nil))))
    (pss_cons (ps_if (PW.pt (pw_or (pt_val (pe_cx c_is_name hr (by decide) rfl pass0 (pa_cons (pv 2) pa_nil))) (pw_or1 (pt_cmpR op_in_seq (pv 2) (pe_gv T.v_WORDS) rfl))))
    (pss_one (ps_ret (pv 2)))
    pss_nil)
    (pss_one (ps_ret pe_str))))
    pss_nil)
    (pss_cons (ps_set (i := 3) sc_token_at.nd rfl (Or.inl rfl) (pe_slice sl_str (pv 0) (po_some (pv 1)) (po_some (pe_op op_addI (pv 1) pe_int))))
    (pss_cons (ps_if (pt_cmpR op_in_seq (pv 3) (pe_gv T.v_LONG_SIGNS) rfl)
    (pss_one (ps_ret (pv 3)))
    pss_nil)
    (pss_cons (ps_if (pt_cmpR op_in_seq (pe_ix ix_str (pv 0) (pv 1) (fun _ _ => rfl)) (pe_gv T.v_SHORT_SIGNS) rfl)
    (pss_one (ps_ret (pe_ix ix_str (pv 0) (pv 1) (fun _ _ => rfl))))
    pss_nil)
    (pss_one (ps_ret pe_str)))))), ?_⟩
  rw [show start ["text", "place", "word", "pair"] [x0, x1] = [some x0, some x1, none, none] from rfl]
  obtain ⟨l, p, rfl, rfl, hl, hp, hQ⟩ := h
  have hz : l.length ≤ sizeLine := Nat.le_trans hl (by decide)
  have hc : l[p]? = some l[p] := List.getElem?_eq_getElem hp
  have hdr : l.drop p = l[p] :: l.drop (p + 1) := (List.drop_eq_getElem_cons hp)
  rw [S_ofs tl_let]
  try dsimp only [cxOf]
  walk_at "w"
  refine w_ixS hz hc ?_
  walk_at "w"
  refine w_dec (fun h1 => ?_) (fun h1 => ?_)
  · walk_at "w"
    refine ⟨_, _, rfl, l, p, rfl, rfl, hl, Nat.le_of_lt hp, ?_⟩
    walk_at "w"
    generalize hw : (l.drop p).takeWhile (fun c => decide (c ∈ WS)) = wd
    have hwl : wd.length ≤ 100000 := by
      rw [← hw]
      have := (List.takeWhile_sublist (l := l.drop p) (fun c => decide (c ∈ WS))).length_le
      rw [List.length_drop] at this; omega
    have hok := word_ok (l := wd) h1 (by rw [← hdr]; exact hw)
    have htk : tk (l.drop p) = if wd.length ≤ 16 then wd.length else 0 := by
      rw [hdr]; unfold tk; simp only; rw [if_pos h1]; unfold wlen; rw [← hdr, hw]
    have yes : wd.length ≤ 16 → Q (.str (S wd)) H := fun h => by
      rw [htk, if_pos h] at hQ
      have z := take_tw (p := fun c => decide (c ∈ WS)) (l.drop p)
      rw [hw] at z; rw [z] at hQ; exact hQ
    refine ⟨_, rfl, wd, rfl, hwl, ?_⟩
    walk_at "w"
    refine w_b (fun h2 => ?_) (fun h2 => ?_)
    · walk_at "w"
      exact yes (hok.mp (.inl h2))
    · walk_at "w"
      refine w_inTab (T.t_WORDS _) (tb_words K) ?_
      walk_at "w"
      refine w_dec (fun h3 => ?_) (fun h3 => ?_)
      · walk_at "w"
        exact yes (hok.mp (.inr h3))
      · walk_at "w"
        have h4 : ¬ wd.length ≤ 16 := fun z => by
          rcases hok.mpr z with z | z
          · rw [z] at h2; cases h2
          · exact h3 z
        rw [htk, if_neg h4] at hQ
        exact hQ
  · walk_at "w"
    refine w_cutS (b := p + 2) hz ?_
    rw [show p + 2 - p = 2 by omega]
    walk_at "w"
    have htk : tk (l.drop p) = if (l.drop p).take 2 ∈ longs then 2 else if l[p] ∈ shorts then 1 else 0 := by
      rw [hdr]; unfold tk; simp only; rw [if_neg h1]
    refine w_inTab (T.t_LONG_SIGNS _) (tb_long K) ?_
    walk_at "w"
    refine w_dec (fun h2 => ?_) (fun h2 => ?_)
    · walk_at "w"
      rw [htk, if_pos h2] at hQ
      exact hQ
    · walk_at "w"
      refine w_ixS hz hc ?_
      walk_at "w"
      refine w_inTab (a := [l[p]]) (T.t_SHORT_SIGNS _) (tb_short K) ?_
      walk_at "w"
      refine w_dec (fun h3 => ?_) (fun h3 => ?_)
      · walk_at "w"
        refine w_ixS hz hc ?_
        walk_at "w"
        rw [htk, if_neg h2, if_pos (one_short.mp h3), hdr] at hQ
        exact hQ
      · walk_at "w"
        rw [htk, if_neg h2, if_neg (fun z => h3 (one_short.mpr z))] at hQ
        exact hQ

end
end K12

namespace K12
open PySem PySem.Spec PyProof.Rows L2 SX
local macro_rules | `(tactic| walk_at "w1") => `(tactic| (first
  | with_reducible refine w_seq ?_ | with_reducible refine w_asgN ?_ | with_reducible refine w_c ?_
  | ((with_reducible refine' w_var ?wv ?_); (case wv => exact rfl))
  | with_reducible refine w_op ?_ | with_reducible refine w_un ?_ | with_reducible refine w_next ?_ | with_reducible refine w_brk ?_ | with_reducible refine w_cnt ?_
  | with_reducible refine w_ifS ?_ | with_reducible refine w_if ?_ | with_reducible refine w_test ?_ | with_reducible refine w_tB ?_ | with_reducible refine w_bl ?_ | with_reducible refine w_blI ?_
  | with_reducible refine w_and ?_ | with_reducible refine w_or ?_ | with_reducible refine w_not ?_ | with_reducible refine w_andV ?_ | with_reducible refine w_orV ?_ | with_reducible refine w_notV ?_
  | with_reducible refine w_nil ?_ | with_reducible refine w_cons ?_ | with_reducible refine w_cb ?_ | with_reducible refine w_call ?_ | with_reducible refine w_callS ?_ | with_reducible refine w_chain ?_
  | with_reducible refine w_tup ?_ | with_reducible refine w_lst ?_ | with_reducible refine w_sl ?_ | with_reducible refine w_noPart ?_ | with_reducible refine w_part ?_ | with_reducible refine w_partI ?_
  | with_reducible refine w_ret ?_ | with_reducible refine w_retN ?_ | with_reducible refine w_drop ?_ | with_reducible refine w_asg ?_ | with_reducible refine w_gSub ?_
  | ((with_reducible refine' w_aug ?wv ?_); (case wv => exact rfl)) | with_reducible refine w_ipI ?_
  | with_reducible refine w_addI ?_ | with_reducible refine w_subI ?_ | with_reducible refine w_ltI ?_ | with_reducible refine w_leI ?_ | with_reducible refine w_gtI ?_ | with_reducible refine w_geI ?_
  | with_reducible refine w_eqI ?_ | with_reducible refine w_neI ?_ | with_reducible refine w_eqT ?_ | with_reducible refine w_neT ?_ | with_reducible refine w_inS ?_ | with_reducible refine w_ninS ?_
  | with_reducible refine w_absI ?_ | with_reducible refine w_intI ?_ | with_reducible refine w_maxI ?_ | with_reducible refine w_minI ?_
  | with_reducible refine w_for ?_ | with_reducible refine w_iR1 ?_ | with_reducible refine w_iR2 ?_ | with_reducible refine w_iStr ?_ | with_reducible refine w_strI ?_ | with_reducible refine w_iList ?_ | with_reducible refine w_iTup ?_
  | with_reducible refine w_bm ?_ | with_reducible refine w_bm0 ?_ | with_reducible refine w_t ?_ | with_reducible refine w_f ?_ | with_reducible refine w_nt ?_ | with_reducible refine w_nx ?_ | with_reducible refine w_rt ?_ | with_reducible refine w_bk ?_ | with_reducible refine w_ct ?_ | with_reducible refine w_nf ?_))
local macro_rules | `(tactic| walk_at "w") => `(tactic| (repeat (first | walk_at "w1" | dsimp (config := { proj := false }) only [List.set_cons_zero, List.set_cons_succ])))
section
variable {w : World} {K : PySem.W.Frag} {mg : Str → Option Value} {base : Heap}

/-! ### rows -/
def RowV (H : Hp) (v : V) (r : List Nat × Nat) : Prop := ∃ a, v = .ref a ∧ H a = some (.tup [.str (S r.1), .int (r.2 : Int)])
def Rows (H : Hp) (xs : List V) (rows : List (List Nat × Nat)) : Prop := Paired (RowV H) xs rows
/-- all but a stands -/
def KeepB (a : Addr) (H H' : Hp) : Prop := ∀ b o, b ≠ a → H b = some o → H' b = some o
theorem Rows.keep {a : Addr} {H H' : Hp} {ys : List V} (k : KeepB a H H') (ha : H a = some (.lst ys)) : ∀ {xs : List V} {rows : List (List Nat × Nat)}, Rows H xs rows → Rows H' xs rows
  | _, _, .nil => .nil
  | _, _, .cons ⟨b, e, hb⟩ r => .cons ⟨b, e, k b _ (ne_of hb ha (by intro z; cases z)) hb⟩ (Rows.keep k ha r)
theorem Rows.same {H H' : Hp} (k : Same H H') : ∀ {xs : List V} {rows : List (List Nat × Nat)}, Rows H xs rows → Rows H' xs rows
  | _, _, .nil => .nil
  | _, _, .cons ⟨b, e, hb⟩ r => .cons ⟨b, e, k b _ hb⟩ (Rows.same k r)
theorem Rows.snoc {H : Hp} {v : V} {r : List Nat × Nat} (h : RowV H v r) : ∀ {xs : List V} {rows : List (List Nat × Nat)}, Rows H xs rows → Rows H (xs ++ [v]) (rows ++ [r])
  | _, _, .nil => .cons h .nil
  | _, _, .cons a t => .cons a (Rows.snoc h t)
theorem Rows.len {H : Hp} : ∀ {xs : List V} {rows : List (List Nat × Nat)}, Rows H xs rows → xs.length = rows.length
  | _, _, .nil => rfl
  | _, _, .cons _ t => congrArg Nat.succ (Rows.len t)
theorem small_log {n : Nat} (h : n ≤ 100000) : ((n : Int)).natAbs.log2 < 1920 := by
  rw [Int.natAbs_natCast]
  by_cases z : n = 0
  · subst z; decide
  · exact (Nat.log2_lt z).mpr (Nat.lt_of_le_of_lt h (Nat.lt_of_lt_of_le (by decide : 100000 < 2 ^ 17) (Nat.pow_le_pow_right (by decide) (by decide))))
def sp_tokens (K : PySem.W.Frag) : Sp := sp1 fun a H Q E => ∃ l : List Nat, a = .str (S l) ∧ l.length ≤ 100000 ∧
  (20000 < l.length → ∀ H' d, Same H H' → H' d = some (.xd [(("limit" : Str), .int 20000)]) → E (.ref (He.ga K "TooLarge")) (some d) H') ∧
  (l.length ≤ 20000 → ∀ e, (LX l 0).2 = some e → ∀ H' d, Same H H' → H' d = some (.xd [(("place" : Str), .int (e : Int))]) → E (.ref (He.ga K "InvalidText")) (some d) H') ∧
  (l.length ≤ 20000 → (LX l 0).2 = none → ∀ H' p xs, Same H H' → H' p = some (.tup xs) → Rows H' xs (LX l 0).1 → Q (.ref p) H')
theorem same_new {H H1 : Hp} {d : Addr} {o : HO} (s : Same H H1) (h : H1 d = none) : Same H (upd H1 d o) := fun b u e => by
  rw [upd_ne (ne_of_none (s b u e) h)]
  exact s b u e
theorem drop_nil_of {l : List Nat} {n : Nat} (h : l.length ≤ n) : l.drop n = [] := List.drop_eq_nil_of_le h
theorem ok_tokens (T : Txt K mg) {fd : FuncData} (F : Fn_tokens K fd) (hm : mg "tokens" = some (.ref (He.ga K "tokens"))) (c_token_at : CalX P w K mg base CX0 2 "_token_at" sp_token_at) : CalX P w K mg base (L2.CX P w) 3 "tokens" (sp_tokens K) := by
  refine calxX (k := 2) F hm sc_tokens (b_tokens F) (fun _ _ _ _ h => sp1_len h) (fun cdv A outer s H vs Q E hr h => ?_)
  obtain ⟨x0, rfl, h⟩ := h
  refine ⟨_, (pss_cons (ps_if (pt_cmpR op_gtI (pe_callB call_lenT (by rfl) T.f_len PySem.boot_len (pa_cons (pv 0) pa_nil)) (pe_gv T.v_MAX_TEXT) (nomark _))
    (pss_one (ps_raiseH rfl T.h_TooLarge (j_TooLarge _) T.n_TooLarge okH hr (takes_of rfl rfl rfl rfl) (pa_cons (pe_gv T.v_MAX_TEXT) pa_nil) rfl))
    pss_nil)
    (pss_cons (ps_set (i := 1) sc_tokens.nd rfl (Or.inl rfl) (pe_lst pa_nil))
    (pss_cons (ps_set (i := 2) sc_tokens.nd rfl (Or.inl rfl) pe_int)
    (pss_cons (ps_while (passes_of rfl) (pt_cmpR op_ltI (pv 2) (pe_callB call_lenT (by rfl) T.f_len PySem.boot_len (pa_cons (pv 0) pa_nil)) (nomark _))
    (pss_cons (ps_if (pt_cmpR op_eq (pe_ix ix_str (pv 0) (pv 2) (fun _ _ => rfl)) pe_str (nomark _))
    (pss_cons (ps_aug (i := 2) sc_tokens.nd rfl (Or.inl rfl) pe_int ip_add)
    (pss_one ps_continue))
    pss_nil)
    (pss_cons (ps_set (i := 3) sc_tokens.nd rfl (Or.inl rfl) (pe_cx c_token_at hr (by decide) rfl pass0 (pa_cons (pv 0) (pa_cons (pv 2) pa_nil))))
    (pss_cons (ps_if (pt_cmpR op_eq (pv 3) pe_str (nomark _))
    (pss_one (ps_raiseH rfl T.h_InvalidText (j_InvalidText _) T.n_InvalidText okH hr (takes_of rfl rfl rfl rfl) (pa_cons (pv 2) pa_nil) rfl))
    pss_nil)
    (pss_cons (ps_expr (pe_bm PySem.F.plainAttrs_list PySem.F.slot_list_append PySem.F.type_list_append mt_append (pv 1) (pa_cons (pe_tup (pa_cons (pv 3) (pa_cons (pv 2) pa_nil))) pa_nil)))
    (pss_one (ps_aug (i := 2) sc_tokens.nd rfl (Or.inl rfl) (pe_callB call_lenT (by rfl) T.f_len PySem.boot_len (pa_cons (pv 3) pa_nil)) ip_add)))))))
    (pss_one (ps_ret (pe_callTy call_tupL (by rfl) T.f_tuple (by decide +kernel) (pa_cons (pv 1) pa_nil)))))))), ?_⟩
  rw [show start ["text", "found", "place", "token"] [x0] = [some x0, none, none, none] from rfl]
  obtain ⟨l, rfl, hl, hE1, hE2, hQ⟩ := h
  have hz : l.length ≤ sizeLine := Nat.le_trans hl (by decide)
  try dsimp only [cxOf]
  walk_at "w"
  refine w_lenS hz ?_
  walk_at "w"
  refine w_dec (fun h1 => ?_) (fun h1 => ?_)
  · refine ⟨_, rfl, ⟨20000, rfl, by decide⟩, fun d hd => ?_⟩
    exact hE1 (by omega) _ d (same_new (Same.refl _) hd) upd_same
  have h1' : l.length ≤ 20000 := by omega
  walk_at "w"
  refine w_new (by decide) (fun pf hpf => ?_)
  walk_at "w"
  have hE2 := hE2 h1'
  have hQ := hQ h1'
  refine w_whl (fun m σ H' => ∃ (q : Nat) (xs : List V) (rows : List (List Nat × Nat)) (v : Option V), m = l.length - q ∧ σ = [some (.str (S l)), some (.ref pf), some (.int (q : Int)), v] ∧ q ≤ l.length ∧ Same H H' ∧ H' pf = some (.lst xs) ∧ Rows H' xs rows ∧ xs.length ≤ q ∧
    LX l 0 = (rows ++ (LX (l.drop q) q).1, (LX (l.drop q) q).2)) _ ⟨0, [], [], _, rfl, rfl, Nat.zero_le _, same_new (Same.refl _) hpf, upd_same, .nil, Nat.le_refl _, rfl⟩ ?_
  rintro m σ H' ⟨q, xs, rows, v, rfl, rfl, hq, sm, hf, hR, hxl, hL⟩
  have e1 : Str.ofString " " = S [32] := S_ofs (by decide +kernel)
  have e2 : Str.ofString "" = S [] := S_ofs (by decide +kernel)
  rw [e1, e2]
  walk_at "w"
  refine w_lenS hz ?_
  walk_at "w"
  refine w_dec (fun h2 => ?_) (fun h2 => ?_)
  · have h2' : q < l.length := by omega
    have hc : l[q]? = some l[q] := List.getElem?_eq_getElem h2'
    have hdr : l.drop q = l[q] :: l.drop (q + 1) := (List.drop_eq_getElem_cons h2')
    refine w_turn ?_
    walk_at "w"
    refine w_ixS hz hc ?_
    walk_at "w"
    refine w_dec (fun h3 => ?_) (fun h3 => ?_)
    · have h3 : l[q] = 32 := by simpa using h3
      walk_at "w"
      refine ⟨l.length - (q + 1), by omega, q + 1, xs, rows, _, rfl, rfl, by omega, sm, hf, hR, by omega, ?_⟩
      rw [hL, hdr, h3, LX_sp]
    · have h3 : l[q] ≠ 32 := fun z => h3 (by rw [z])
      walk_at "w"
      refine ⟨_, _, rfl, l, q, rfl, rfl, hl, h2', ?_⟩
      walk_at "w"
      refine w_dec (fun h4 => ?_) (fun h4 => ?_)
      · have h5 : tk (l.drop q) = 0 := by
          have := congrArg List.length h4
          rw [List.length_take, List.length_nil, List.length_drop] at this
          omega
        refine ⟨_, rfl, _, rfl, ⟨q, rfl, small_log (by omega)⟩, fun d hd => ?_⟩
        refine hE2 q ?_ _ d (same_new sm hd) upd_same
        rw [hL, hdr, LX_bad h3 (by rw [← hdr]; exact h5)]
      · have h5 : tk (l.drop q) ≠ 0 := fun z => h4 (by rw [z]; rfl)
        have h6 : tk (l.drop q) ≤ l.length - q := by
          have := tk_le (l.drop q); rw [List.length_drop] at this; exact this
        have h7 : ((l.drop q).take (tk (l.drop q))).length = tk (l.drop q) := by
          rw [List.length_take, List.length_drop]; omega
        walk_at "w"
        refine w_lstTy hf ?_
        walk_at "w"
        refine w_new (Nat.le_of_ble_eq_true rfl) (fun t ht => ?_)
        walk_at "w"
        have hft : pf ≠ t := ne_of_none hf ht
        have hf' : upd H' t (.tup [.str (S ((l.drop q).take (tk (l.drop q)))), .int (q : Int)]) pf = some (.lst xs) := by rw [upd_ne hft]; exact hf
        refine w_app hf' (Nat.lt_of_le_of_lt hxl (Nat.lt_of_le_of_lt hq (Nat.lt_of_le_of_lt hl (by decide)))) ?_
        walk_at "w"
        refine w_lenS (by rw [h7]; exact Nat.le_trans (Nat.le_trans h6 (Nat.sub_le _ _)) hz) ?_
        walk_at "w"
        have sm1 : Same H' (upd H' t (.tup [.str (S ((l.drop q).take (tk (l.drop q)))), .int (q : Int)])) := same_new (Same.refl _) ht
        have kb : KeepB pf (upd H' t (.tup [.str (S ((l.drop q).take (tk (l.drop q)))), .int (q : Int)])) (upd (upd H' t (.tup [.str (S ((l.drop q).take (tk (l.drop q)))), .int (q : Int)])) pf (.lst (xs ++ [.ref t]))) := fun b o hb e => by rw [upd_ne hb]; exact e
        rw [h7]
        refine ⟨l.length - (q + tk (l.drop q)), by omega, q + tk (l.drop q), xs ++ [.ref t], rows ++ [((l.drop q).take (tk (l.drop q)), q)], _, rfl, rfl, by omega, ?_, upd_same, ?_, ?_, ?_⟩
        · intro b o e
          rw [upd_ne (ne_of_none e hpf)]
          exact sm1 b o (sm b o e)
        · refine Rows.snoc ⟨t, rfl, ?_⟩ (Rows.keep kb hf' (Rows.same sm1 hR))
          rw [upd_ne (Ne.symm hft)]; exact upd_same
        · rw [List.length_append]; simp; omega
        · rw [hL, hdr, LX_tok h3 (by rw [← hdr]; exact h5), ← hdr, List.drop_drop]
          simp
  · have h2' : q = l.length := by omega
    walk_at "w"
    refine ⟨pf, xs, rfl, SqL.of hf, fun t ht => ?_⟩
    rw [h2', drop_nil_of (Nat.le_refl _), LX_nil] at hL
    refine hQ (by rw [hL]) _ t xs (same_new sm ht) upd_same ?_
    rw [hL]
    simp only [List.append_nil]
    exact Rows.same (same_new (Same.refl _) ht) hR

end
end K12

namespace K12
open PySem PySem.Spec PyProof.Rows L2 SX
local macro_rules | `(tactic| walk_at "w1") => `(tactic| (first
  | with_reducible refine w_seq ?_ | with_reducible refine w_asgN ?_ | with_reducible refine w_c ?_
  | ((with_reducible refine' w_var ?wv ?_); (case wv => exact rfl))
  | with_reducible refine w_op ?_ | with_reducible refine w_un ?_ | with_reducible refine w_next ?_ | with_reducible refine w_brk ?_ | with_reducible refine w_cnt ?_
  | with_reducible refine w_ifS ?_ | with_reducible refine w_if ?_ | with_reducible refine w_test ?_ | with_reducible refine w_tB ?_ | with_reducible refine w_bl ?_ | with_reducible refine w_blI ?_
  | with_reducible refine w_and ?_ | with_reducible refine w_or ?_ | with_reducible refine w_not ?_ | with_reducible refine w_andV ?_ | with_reducible refine w_orV ?_ | with_reducible refine w_notV ?_
  | with_reducible refine w_nil ?_ | with_reducible refine w_cons ?_ | with_reducible refine w_cb ?_ | with_reducible refine w_call ?_ | with_reducible refine w_callS ?_ | with_reducible refine w_chain ?_
  | with_reducible refine w_tup ?_ | with_reducible refine w_lst ?_ | with_reducible refine w_sl ?_ | with_reducible refine w_noPart ?_ | with_reducible refine w_part ?_ | with_reducible refine w_partI ?_
  | with_reducible refine w_ret ?_ | with_reducible refine w_retN ?_ | with_reducible refine w_drop ?_ | with_reducible refine w_asg ?_ | with_reducible refine w_gSub ?_
  | ((with_reducible refine' w_aug ?wv ?_); (case wv => exact rfl)) | with_reducible refine w_ipI ?_
  | with_reducible refine w_addI ?_ | with_reducible refine w_subI ?_ | with_reducible refine w_ltI ?_ | with_reducible refine w_leI ?_ | with_reducible refine w_gtI ?_ | with_reducible refine w_geI ?_
  | with_reducible refine w_eqI ?_ | with_reducible refine w_neI ?_ | with_reducible refine w_eqT ?_ | with_reducible refine w_neT ?_ | with_reducible refine w_inS ?_ | with_reducible refine w_ninS ?_
  | with_reducible refine w_absI ?_ | with_reducible refine w_intI ?_ | with_reducible refine w_maxI ?_ | with_reducible refine w_minI ?_
  | with_reducible refine w_for ?_ | with_reducible refine w_iR1 ?_ | with_reducible refine w_iR2 ?_ | with_reducible refine w_iStr ?_ | with_reducible refine w_strI ?_ | with_reducible refine w_iList ?_ | with_reducible refine w_iTup ?_
  | with_reducible refine w_bm ?_ | with_reducible refine w_bm0 ?_ | with_reducible refine w_t ?_ | with_reducible refine w_f ?_ | with_reducible refine w_nt ?_ | with_reducible refine w_nx ?_ | with_reducible refine w_rt ?_ | with_reducible refine w_bk ?_ | with_reducible refine w_ct ?_ | with_reducible refine w_nf ?_))
local macro_rules | `(tactic| walk_at "w") => `(tactic| (repeat (first | walk_at "w1" | dsimp (config := { proj := false }) only [List.set_cons_zero, List.set_cons_succ])))
section
variable {w : World} {K : PySem.W.Frag} {mg : Str → Option Value} {base : Heap}

/-! ### dice -/
def Dice (a : Addr) (H : Hp) : Prop := ∃ r f s : Int, H a = some (.lst [.int r, .int f, .int s]) ∧ 0 ≤ r ∧ 0 ≤ f ∧ f < 2147483647 ∧ 0 ≤ s ∧ s < 2147483629
theorem KeepB.refl (a : Addr) (H : Hp) : KeepB a H H := fun _ _ _ e => e
theorem KeepB.trans {a : Addr} {H H1 H2 : Hp} (h : KeepB a H H1) (h' : KeepB a H1 H2) : KeepB a H H2 := fun b o hb e => h' b o hb (h b o hb e)
theorem KeepB.upd {a : Addr} {H : Hp} {o : HO} : KeepB a H (upd H a o) := fun b o hb e => by rw [upd_ne hb]; exact e
theorem KeepB.new {a p : Addr} {H H1 : Hp} {o : HO} (k : KeepB a H H1) (h : H1 p = none) : KeepB a H (L2.upd H1 p o) := fun b u hb e => by
  rw [upd_ne (ne_of_none (k b u hb e) h)]; exact k b u hb e
theorem Dice.new {a p : Addr} {H : Hp} {o : HO} (d : Dice a H) (h : H p = none) : Dice a (L2.upd H p o) := by
  obtain ⟨r, f, s, e, z⟩ := d
  exact ⟨r, f, s, by rw [upd_ne (ne_of_none e h)]; exact e, z⟩
/-- behind a def that draws: the dice stand, all else is as it was -/
def After (a : Addr) (H H' : Hp) : Prop := Dice a H' ∧ KeepB a H H'
theorem After.trans {a : Addr} {H H1 H2 : Hp} (h : After a H H1) (h' : After a H1 H2) : After a H H2 := ⟨h'.1, h.2.trans h'.2⟩
theorem After.new {a p : Addr} {H H1 : Hp} {o : HO} (h : After a H H1) (hp : H1 p = none) : After a H (L2.upd H1 p o) := ⟨h.1.new hp, h.2.new hp⟩
def sp_law_draw : Sp := sp2 fun x y H Q _ => ∃ (a : Addr) (n : Int), x = .ref a ∧ y = .int n ∧ 0 < n ∧ n < 1000000 ∧ Dice a H ∧ ∀ (v : Nat) H', (v : Int) < n → After a H H' → Q (.int v) H'
theorem ok_law_draw (T : Txt K mg) {fd : FuncData} (F : Fn_law_draw K fd) (hm : mg "_law_draw" = some (.ref (He.ga K "_law_draw")))  : CalX P w K mg base CX0 1 "_law_draw" sp_law_draw := by
  refine calx0 (k := 0) F hm sc_law_draw (b_law_draw F) (fun _ _ _ _ h => sp2_len h) (fun cdv A outer s H vs Q E hr h => ?_)
  obtain ⟨x0, x1, rfl, h⟩ := h
  refine ⟨_, (pss_cons (ps_if (pt_cmpR op_gtI (pe_ix ix_list (pv 0) pe_int (fun _ _ => rfl)) pe_int (nomark _))
    (pss_cons (ps_set (i := 2) sc_law_draw.nd rfl (Or.inl rfl) (pe_op op_modI (pe_callTy call_intI (by rfl) T.f_int (by decide +kernel) (pa_cons (pe_ix ix_list (pv 0) pe_int (fun _ _ => rfl)) pa_nil)) (pv 1)))
    (pss_cons (ps_asg (pe_op op_divI (pe_ix ix_list (pv 0) pe_int (fun _ _ => rfl)) (pv 1)) (pg_sub (pv 0) pe_int set_list))
    (pss_one (ps_ret (pv 2)))))
    pss_nil)
    (pss_cons (ps_asg (pe_op op_modI (pe_callTy call_intI (by rfl) T.f_int (by decide +kernel) (pa_cons (pe_op op_addI (pe_op op_mulI (pe_ix ix_list (pv 0) pe_int (fun _ _ => rfl)) pe_int) (pe_ix ix_list (pv 0) pe_int (fun _ _ => rfl))) pa_nil)) pe_int) (pg_sub (pv 0) pe_int set_list))
    (pss_cons (ps_asg (pe_op op_modI (pe_callTy call_intI (by rfl) T.f_int (by decide +kernel) (pa_cons (pe_op op_addI (pe_op op_mulI (pe_ix ix_list (pv 0) pe_int (fun _ _ => rfl)) pe_int) (pe_ix ix_list (pv 0) pe_int (fun _ _ => rfl))) pa_nil)) pe_int) (pg_sub (pv 0) pe_int set_list))
    (pss_one (ps_ret (pe_op op_modI (pe_callTy call_intI (by rfl) T.f_int (by decide +kernel) (pa_cons (pe_op op_divI (pe_ix ix_list (pv 0) pe_int (fun _ _ => rfl)) pe_int) pa_nil)) (pv 1))))))), ?_⟩
  rw [show start ["dice", "size", "found"] [x0, x1] = [some x0, some x1, none] from rfl]
  obtain ⟨a, n, rfl, rfl, hn, hn2, ⟨r, f, s, hd, h1, h2, h3, h4, h5⟩, hQ⟩ := h
  have fin : ∀ (v : Int) H', 0 ≤ v → v < n → After a H H' → Q (.int v) H' := fun v H' z1 z2 z3 => by
    have e : ((v.toNat : Nat) : Int) = v := Int.toNat_of_nonneg z1
    have z := hQ v.toNat H' (by omega) z3
    rw [e] at z; exact z
  try dsimp only [cxOf]
  walk_at "w"
  refine w_ixL (n := 0) (SqL.of hd) rfl ?_
  walk_at "w"
  refine w_dec (fun h6 => ?_) (fun h6 => ?_)
  · walk_at "w"
    refine w_ixL (n := 0) (SqL.of hd) rfl ?_
    walk_at "w"
    refine w_modI hn ?_
    walk_at "w"
    refine w_ixL (n := 0) (SqL.of hd) rfl ?_
    walk_at "w"
    refine w_divI ⟨hn, by omega⟩ ?_
    walk_at "w"
    refine w_setL (k := 0) hd (Nat.le_of_ble_eq_true rfl) ?_
    walk_at "w"
    exact fin _ _ (Int.emod_nonneg _ (by omega)) (Int.emod_lt_of_pos _ hn) ⟨⟨_, _, _, upd_same, Int.ediv_nonneg (by omega) (by omega), h2, h3, h4, h5⟩, KeepB.upd⟩
  · walk_at "w"
    refine w_ixL (n := 1) (SqL.of hd) rfl ?_
    walk_at "w"
    refine w_mulI (.inr (by omega)) ?_
    walk_at "w"
    refine w_ixL (n := 2) (SqL.of hd) rfl ?_
    walk_at "w"
    refine w_modI (by omega) ?_
    walk_at "w"
    refine w_setL (k := 1) hd (Nat.le_of_ble_eq_true rfl) ?_
    walk_at "w"
    refine w_ixL (n := 2) (SqL.of upd_same) rfl ?_
    walk_at "w"
    refine w_mulI (.inr (by omega)) ?_
    walk_at "w"
    refine w_ixL (n := 1) (SqL.of upd_same) rfl ?_
    walk_at "w"
    refine w_modI (by omega) ?_
    walk_at "w"
    refine w_setL (k := 2) upd_same (Nat.le_of_ble_eq_true rfl) ?_
    walk_at "w"
    refine w_ixL (n := 2) (SqL.of upd_same) rfl ?_
    walk_at "w"
    refine w_divI (by constructor <;> omega) ?_
    walk_at "w"
    refine w_modI hn ?_
    walk_at "w"
    refine fin _ _ (Int.emod_nonneg _ (by omega)) (Int.emod_lt_of_pos _ hn) ⟨⟨_, _, _, upd_same, h1, Int.emod_nonneg _ (by omega), Int.emod_lt_of_pos _ (by omega), Int.emod_nonneg _ (by omega), Int.emod_lt_of_pos _ (by omega)⟩, KeepB.upd.trans KeepB.upd⟩

def sp_law_dice (K : PySem.W.Frag) : Sp := sp2 fun x y H Q _ => ∃ (a : Addr) (ns : List Int) (k : Nat), x = .ref a ∧ y = .int (k : Int) ∧ SqL K H a (ns.map V.int) ∧ k ≤ 1000 ∧ ∀ p H', Dice p H' → H p = none → Same H H' → Q (.ref p) H'
theorem ok_law_dice (T : Txt K mg) {fd : FuncData} (F : Fn_law_dice K fd) (hm : mg "_law_dice" = some (.ref (He.ga K "_law_dice")))  : CalX P w K mg base CX0 1 "_law_dice" (sp_law_dice K) := by
  refine calx0 (k := 0) F hm sc_law_dice (b_law_dice F) (fun _ _ _ _ h => sp2_len h) (fun cdv A outer s H vs Q E hr h => ?_)
  obtain ⟨x0, x1, rfl, h⟩ := h
  refine ⟨_, (pss_cons (ps_set (i := 2) sc_law_dice.nd rfl (Or.inl rfl) (pe_op op_mulI pe_int (pe_op op_addI (pv 1) pe_int)))
    (Evl.pss_cut (ps_if (pt_cmpR op_ltI (pv 1) (pe_callB call_lenQ (by rfl) T.f_len PySem.boot_len (pa_cons (pv 0) pa_nil)) (nomark _))
    (pss_one (ps_set (i := 2) sc_law_dice.nd rfl (Or.inl rfl) (pe_callB call_absI (by rfl) T.f_abs (by decide +kernel) (pa_cons (pe_ix ix_list (pv 0) (pv 1) (fun _ _ => rfl)) pa_nil))))
    pss_nil)
    (pss_cons (ps_set (i := 3) sc_law_dice.nd rfl (Or.inl rfl) pe_int)
    (Evl.pss_cut (ps_if (pt_cmpR op_geI (pv 2) (pe_op op_powI pe_int pe_int) (nomark _))
    (pss_one (ps_set (i := 3) sc_law_dice.nd rfl (Or.inl rfl) (pv 2)))
    pss_nil)
    (pss_cons (ps_set (i := 4) sc_law_dice.nd rfl (Or.inl rfl) (pe_op op_modI (pe_callTy call_intI (by rfl) T.f_int (by decide +kernel) (pa_cons (pe_op op_addI (pe_op op_addI (pe_op op_mulI (pv 2) pe_int) (pe_op op_mulI (pv 1) pe_int)) pe_int) pa_nil)) pe_int))
    (pss_one (ps_ret (pe_lst (pa_cons (pv 3) (pa_cons (pv 4) (pa_cons (pe_op op_modI (pe_callTy call_intI (by rfl) T.f_int (by decide +kernel) (pa_cons (pe_op op_addI (pe_op op_mulI (pv 4) (pv 4)) (pv 2)) pa_nil)) pe_int) pa_nil))))))))))), ?_⟩
  rw [show start ["script", "k", "cell", "rest", "first"] [x0, x1] = [some x0, some x1, none, none, none] from rfl]
  obtain ⟨a, ns, k, rfl, rfl, hS, hk, hQ⟩ := h
  try dsimp only [cxOf]
  walk_at "w"
  refine w_mulI (.inl (by omega)) ?_
  walk_at "w"
  refine w_mid (fun σ H' => H' = H ∧ ∃ cell : Int, 0 ≤ cell ∧ σ = [some (.ref a), some (.int (k : Int)), some (.int cell), none, none]) ?_ ?_
  · walk_at "w"
    refine w_lenL hS ?_
    walk_at "w"
    refine w_dec (fun h1 => ?_) (fun h1 => ?_)
    · have h1 : k < ns.length := by rw [List.length_map] at h1; omega
      walk_at "w"
      refine w_ixL (v := .int ns[k]) hS (by rw [List.getElem?_map, List.getElem?_eq_getElem h1]; rfl) ?_
      walk_at "w"
      exact ⟨rfl, _, by split <;> omega, rfl⟩
    · walk_at "w"
      exact ⟨rfl, _, by omega, rfl⟩
  rintro σ H' ⟨rfl, cell, hc, rfl⟩
  walk_at "w"
  refine w_mid (fun σ H2 => H2 = H' ∧ ∃ rest : Int, 0 ≤ rest ∧ σ = [some (.ref a), some (.int (k : Int)), some (.int cell), some (.int rest), none]) ?_ ?_
  · walk_at "w"
    refine w_powI ⟨by omega, by omega, by decide⟩ ?_
    walk_at "w"
    refine w_dec (fun _ => ?_) (fun _ => ?_)
    · walk_at "w"
      exact ⟨rfl, cell, hc, rfl⟩
    · walk_at "w"
      exact ⟨rfl, 0, Int.le_refl _, rfl⟩
  rintro σ H2 ⟨rfl, rest, hr, rfl⟩
  walk_at "w"
  refine w_mulI (.inr (by omega)) ?_
  walk_at "w"
  refine w_mulI (.inr (by omega)) ?_
  walk_at "w"
  refine w_modI (by omega) ?_
  walk_at "w"
  have b1 := Int.emod_nonneg (cell * 48271 + (k : Int) * 69621 + 11) (by omega : (2147483647 : Int) ≠ 0)
  have b2 := Int.emod_lt_of_pos (cell * 48271 + (k : Int) * 69621 + 11) (by omega : (0 : Int) < 2147483647)
  refine w_mulI (.inl (by omega)) ?_
  walk_at "w"
  refine w_modI (by omega) ?_
  walk_at "w"
  refine w_new (Nat.le_of_ble_eq_true rfl) (fun p hp => ?_)
  walk_at "w"
  exact hQ p _ ⟨_, _, _, upd_same, hr, b1, b2, Int.emod_nonneg _ (by omega), Int.emod_lt_of_pos _ (by omega)⟩ hp (same_new (Same.refl _) hp)

end
end K12

namespace K12
open PySem PySem.Spec PyProof.Rows L2 SX
local macro_rules | `(tactic| walk_at "w1") => `(tactic| (first
  | with_reducible refine w_seq ?_ | with_reducible refine w_asgN ?_ | with_reducible refine w_c ?_
  | ((with_reducible refine' w_var ?wv ?_); (case wv => exact rfl))
  | with_reducible refine w_op ?_ | with_reducible refine w_un ?_ | with_reducible refine w_next ?_ | with_reducible refine w_brk ?_ | with_reducible refine w_cnt ?_
  | with_reducible refine w_ifS ?_ | with_reducible refine w_if ?_ | with_reducible refine w_test ?_ | with_reducible refine w_tB ?_ | with_reducible refine w_bl ?_ | with_reducible refine w_blI ?_
  | with_reducible refine w_and ?_ | with_reducible refine w_or ?_ | with_reducible refine w_not ?_ | with_reducible refine w_andV ?_ | with_reducible refine w_orV ?_ | with_reducible refine w_notV ?_
  | with_reducible refine w_nil ?_ | with_reducible refine w_cons ?_ | with_reducible refine w_cb ?_ | with_reducible refine w_call ?_ | with_reducible refine w_callS ?_ | with_reducible refine w_chain ?_
  | with_reducible refine w_tup ?_ | with_reducible refine w_lst ?_ | with_reducible refine w_sl ?_ | with_reducible refine w_noPart ?_ | with_reducible refine w_part ?_ | with_reducible refine w_partI ?_
  | with_reducible refine w_ret ?_ | with_reducible refine w_retN ?_ | with_reducible refine w_drop ?_ | with_reducible refine w_asg ?_ | with_reducible refine w_gSub ?_
  | ((with_reducible refine' w_aug ?wv ?_); (case wv => exact rfl)) | with_reducible refine w_ipI ?_
  | with_reducible refine w_addI ?_ | with_reducible refine w_subI ?_ | with_reducible refine w_ltI ?_ | with_reducible refine w_leI ?_ | with_reducible refine w_gtI ?_ | with_reducible refine w_geI ?_
  | with_reducible refine w_eqI ?_ | with_reducible refine w_neI ?_ | with_reducible refine w_eqT ?_ | with_reducible refine w_neT ?_ | with_reducible refine w_inS ?_ | with_reducible refine w_ninS ?_
  | with_reducible refine w_absI ?_ | with_reducible refine w_intI ?_ | with_reducible refine w_maxI ?_ | with_reducible refine w_minI ?_
  | with_reducible refine w_for ?_ | with_reducible refine w_iR1 ?_ | with_reducible refine w_iR2 ?_ | with_reducible refine w_iStr ?_ | with_reducible refine w_strI ?_ | with_reducible refine w_iList ?_ | with_reducible refine w_iTup ?_
  | with_reducible refine w_bm ?_ | with_reducible refine w_bm0 ?_ | with_reducible refine w_t ?_ | with_reducible refine w_f ?_ | with_reducible refine w_nt ?_ | with_reducible refine w_nx ?_ | with_reducible refine w_rt ?_ | with_reducible refine w_bk ?_ | with_reducible refine w_ct ?_ | with_reducible refine w_nf ?_))
local macro_rules | `(tactic| walk_at "w") => `(tactic| (repeat (first | walk_at "w1" | dsimp (config := { proj := false }) only [List.set_cons_zero, List.set_cons_succ])))
section
variable {w : World} {K : PySem.W.Frag} {mg : Str → Option Value} {base : Heap}

def Name (n : Nat) (l : List Nat) : Prop := l.length = n ∧ (∃ c, l[0]? = some c ∧ c ∈ LET) ∧ ∀ c ∈ l, c ∈ WS
theorem tl_app : LET ++ [48,49,50,51,52,53,54,55,56,57,95] = WS := rfl
def sp_law_name : Sp := sp2 fun x y H Q _ => ∃ (a : Addr) (n : Nat), x = .ref a ∧ y = .int (n : Int) ∧ 1 ≤ n ∧ n ≤ 1000 ∧ Dice a H ∧ ∀ l H', Name n l → After a H H' → Q (.str (S l)) H'
theorem ok_law_name (T : Txt K mg) {fd : FuncData} (F : Fn_law_name K fd) (hm : mg "_law_name" = some (.ref (He.ga K "_law_name"))) (c_law_draw : CalX P w K mg base CX0 1 "_law_draw" sp_law_draw) : CalX P w K mg base CX0 2 "_law_name" sp_law_name := by
  refine calx0 (k := 1) F hm sc_law_name (b_law_name F) (fun _ _ _ _ h => sp2_len h) (fun cdv A outer s H vs Q E hr h => ?_)
  obtain ⟨x0, x1, rfl, h⟩ := h
  refine ⟨_, (pss_cons (ps_set (i := 2) sc_law_name.nd rfl (Or.inl rfl) pe_str)
    (pss_cons (ps_set (i := 3) sc_law_name.nd rfl (Or.inl rfl) (pe_op op_catS (pv 2) pe_str))
    (pss_cons (ps_set (i := 4) sc_law_name.nd rfl (Or.inl rfl) (pe_ix ix_str (pv 2) (pe_cx c_law_draw hr (by decide) rfl pass0 (pa_cons (pv 0) (pa_cons pe_int pa_nil))) (fun _ _ => rfl)))
    (pss_cons (ps_for PassesOwn.never rfl (pi_range1 (by rfl) T.f_range (pa_cons (pe_op op_subI (pv 1) pe_int) pa_nil)) (pg_name (i := 5) sc_law_name.nd rfl (Or.inl rfl))
    (pss_one (ps_set (i := 4) sc_law_name.nd rfl (Or.inl rfl) (pe_op op_catS (pv 4) (pe_ix ix_str (pv 3) (pe_cx c_law_draw hr (by decide) rfl pass0 (pa_cons (pv 0) (pa_cons pe_int pa_nil))) (fun _ _ => rfl))))))
    (pss_one (ps_ret (pv 4))))))), ?_⟩
  rw [show start ["dice", "size", "letters", "more", "word", "k"] [x0, x1] = [some x0, some x1, none, none, none, none] from rfl]
  obtain ⟨a, n, rfl, rfl, hn, hn2, hD, hQ⟩ := h
  have e1 : Str.ofString "0123456789_" = S [48,49,50,51,52,53,54,55,56,57,95] := S_ofs (by decide +kernel)
  rw [S_ofs tl_let, e1]
  try dsimp only [cxOf]
  walk_at "w"
  refine w_catT (by decide) ?_
  rw [tl_app]
  walk_at "w"
  refine ⟨_, _, rfl, a, 26, rfl, rfl, by omega, by omega, hD, fun v H1 hv A1 => ?_⟩
  have hc : LET[v]? = some (LET[v]'(by show v < 26; omega)) := List.getElem?_eq_getElem _
  walk_at "w"
  refine w_ixS (by decide) hc ?_
  walk_at "w"
  refine w_rg1 (by omega) (by omega) ?_
  refine for_range (fun i σ H' => After a H H' ∧ ∃ l v, σ = [some (.ref a), some (.int (n : Int)), some (.str (S LET)), some (.str (S WS)), some (.str (S l)), v] ∧ Name (i + 1) l) ⟨A1, [_], _, rfl, rfl, ⟨_, rfl, List.getElem_mem _⟩, fun c h => ?_⟩ ?_ ?_
  · rw [List.mem_singleton.mp h]; exact let_ws (List.getElem_mem _)
  · rintro i σ H2 hi ⟨A2, l, v, rfl, hl⟩
    dsimp only [gName]
    walk_at "w"
    refine ⟨_, _, rfl, a, 37, rfl, rfl, by omega, by omega, A2.1, fun u H3 hu A3 => ?_⟩
    have hd : WS[u]? = some (WS[u]'(by show u < 37; omega)) := List.getElem?_eq_getElem _
    walk_at "w"
    refine w_ixS (by decide) hd ?_
    walk_at "w"
    refine w_catT (b := [_]) (by rw [hl.1]; show i + 1 + 1 ≤ sizeLine; rw [sizeLine_eq]; omega) ?_
    walk_at "w"
    refine ⟨A2.trans A3, _, _, rfl, ?_, ?_, ?_⟩
    · rw [List.length_append, hl.1]; rfl
    · obtain ⟨c, h1, h2⟩ := hl.2.1
      exact ⟨c, by rw [List.getElem?_append_left (by rw [hl.1]; omega)]; exact h1, h2⟩
    · intro c hc
      rcases List.mem_append.mp hc with hc | hc
      · exact hl.2.2 c hc
      · rw [List.mem_singleton.mp hc]; exact List.getElem_mem _
  · rintro σ H2 ⟨A2, l, v, rfl, hl⟩
    walk_at "w"
    rw [show ((n : Int) - 1).toNat + 1 = n by omega] at hl
    exact hQ l H2 hl A2

def SIGNS : List (List Nat) := [[40], [41], [58], [46], [44], [39], [61], [61, 62], [38], [124], [126], [45, 62], [124, 45]]
def Tok (l : List Nat) : Prop := (∃ n, 1 ≤ n ∧ n ≤ 16 ∧ Name n l) ∨ l ∈ SIGNS
theorem res_tok {l : List Nat} (h : l ∈ RES) : Tok l := by
  have key : ∀ l ∈ RES, (1 ≤ l.length ∧ l.length ≤ 16) ∧ (l[0]?.any fun c => decide (c ∈ LET)) = true ∧ (l.all fun c => decide (c ∈ WS)) = true := by decide
  obtain ⟨h1, h2, h3⟩ := key l h
  refine .inl ⟨l.length, h1.1, h1.2, rfl, ?_, fun c hc => of_decide_eq_true (List.all_eq_true.mp h3 c hc)⟩
  cases e : l[0]? with
  | none => rw [e] at h2; cases h2
  | some c => rw [e] at h2; exact ⟨c, rfl, of_decide_eq_true h2⟩
def sp_law_token : Sp := sp1 fun x H Q _ => ∃ a : Addr, x = .ref a ∧ Dice a H ∧ ∀ l H', Tok l → After a H H' → Q (.str (S l)) H'
theorem res_vs : ([.str "all", .str "some", .str "lam", .str "true", .str "false", .str "bool"] : List V) = RES.map fun r => V.str (S r) := by decide +kernel
theorem sign_vs : ([.str "(", .str ")", .str ":", .str ".", .str ",", .str "'", .str "=", .str "=>", .str "&", .str "|", .str "~", .str "->", .str "|-"] : List V) = SIGNS.map fun r => V.str (S r) := by decide +kernel
theorem ok_law_token (T : Txt K mg) {fd : FuncData} (F : Fn_law_token K fd) (hm : mg "_law_token" = some (.ref (He.ga K "_law_token"))) (c_law_draw : CalX P w K mg base CX0 1 "_law_draw" sp_law_draw) (c_law_name : CalX P w K mg base CX0 2 "_law_name" sp_law_name) : CalX P w K mg base CX0 3 "_law_token" sp_law_token := by
  refine calx0 (k := 2) F hm sc_law_token (b_law_token F) (fun _ _ _ _ h => sp1_len h) (fun cdv A outer s H vs Q E hr h => ?_)
  obtain ⟨x0, rfl, h⟩ := h
  refine ⟨_, (pss_cons (ps_set (i := 1) sc_law_token.nd rfl (Or.inl rfl) (pe_cx c_law_draw hr (by decide) rfl pass0 (pa_cons (pv 0) (pa_cons pe_int pa_nil))))
    (pss_cons (ps_if (pt_cmpR op_eq (pv 1) pe_int (nomark _))
    (pss_one (ps_ret (pe_ix ix_list (pe_lst (pa_cons pe_str (pa_cons pe_str (pa_cons pe_str (pa_cons pe_str (pa_cons pe_str (pa_cons pe_str pa_nil))))))) (pe_cx c_law_draw hr (by decide) rfl pass0 (pa_cons (pv 0) (pa_cons pe_int pa_nil))) (fun _ _ => rfl))))
    pss_nil)
    (pss_cons (ps_if (pt_cmpR op_eq (pv 1) pe_int (nomark _))
    (pss_one (ps_ret (pe_cx c_law_name hr (by decide) rfl pass0 (pa_cons (pv 0) (pa_cons (pe_op op_addI pe_int (pe_cx c_law_draw hr (by decide) rfl pass0 (pa_cons (pv 0) (pa_cons pe_int pa_nil)))) pa_nil)))))
    pss_nil)
    (pss_cons (ps_set (i := 2) sc_law_token.nd rfl (Or.inl rfl) (pe_lst (pa_cons pe_str (pa_cons pe_str (pa_cons pe_str (pa_cons pe_str (pa_cons pe_str (pa_cons pe_str (pa_cons pe_str (pa_cons pe_str (pa_cons pe_str (pa_cons pe_str (pa_cons pe_str (pa_cons pe_str (pa_cons pe_str pa_nil)))))))))))))))
    (pss_one (ps_ret (pe_ix ix_list (pv 2) (pe_cx c_law_draw hr (by decide) rfl pass0 (pa_cons (pv 0) (pa_cons pe_int pa_nil))) (fun _ _ => rfl)))))))), ?_⟩
  rw [show start ["dice", "choice", "signs"] [x0] = [some x0, none, none] from rfl]
  obtain ⟨a, rfl, hD, hQ⟩ := h
  try dsimp only [cxOf]
  walk_at "w"
  refine ⟨_, _, rfl, a, 4, rfl, rfl, by omega, by omega, hD, fun v H1 hv A1 => ?_⟩
  walk_at "w"
  refine w_dec (fun h1 => ?_) (fun h1 => ?_)
  · walk_at "w"
    refine w_new (Nat.le_of_ble_eq_true rfl) (fun p hp => ?_)
    walk_at "w"
    refine ⟨_, _, rfl, a, 6, rfl, rfl, by omega, by omega, A1.1.new hp, fun u H2 hu A2 => ?_⟩
    have hp2 : H2 p = some _ := A2.2 p _ (Ne.symm (by obtain ⟨_, _, _, e, _⟩ := A1.1; exact ne_of_none e hp)) upd_same
    have hu' : u < RES.length := by show u < 6; omega
    refine w_ixL (v := .str (S RES[u])) (SqL.of hp2) (by rw [res_vs, List.getElem?_map, List.getElem?_eq_getElem hu']; rfl) ?_
    walk_at "w"
    exact hQ _ _ (res_tok (List.getElem_mem _)) ((A1.new hp).trans A2)
  walk_at "w"
  refine w_dec (fun h2 => ?_) (fun h2 => ?_)
  · walk_at "w"
    refine ⟨_, _, rfl, a, 16, rfl, rfl, by omega, by omega, A1.1, fun u H2 hu A2 => ?_⟩
    walk_at "w"
    refine ⟨_, _, rfl, a, u + 1, rfl, by rw [Int.add_comm]; rfl, by omega, by omega, A2.1, fun l H3 hl A3 => ?_⟩
    walk_at "w"
    exact hQ l H3 (.inl ⟨u + 1, by omega, by omega, hl⟩) ((A1.trans A2).trans A3)
  walk_at "w"
  refine w_new (Nat.le_of_ble_eq_true rfl) (fun p hp => ?_)
  walk_at "w"
  refine ⟨_, _, rfl, a, 13, rfl, rfl, by omega, by omega, A1.1.new hp, fun u H2 hu A2 => ?_⟩
  have hp2 : H2 p = some _ := A2.2 p _ (Ne.symm (by obtain ⟨_, _, _, e, _⟩ := A1.1; exact ne_of_none e hp)) upd_same
  have hu' : u < SIGNS.length := by show u < 13; omega
  refine w_ixL (v := .str (S SIGNS[u])) (SqL.of hp2) (by rw [sign_vs, List.getElem?_map, List.getElem?_eq_getElem hu']; rfl) ?_
  walk_at "w"
  exact hQ _ _ (.inr (List.getElem_mem _)) ((A1.new hp).trans A2)

def ODD : List Nat := [33,34,35,36,42,43,45,47,48,49,50,51,52,53,54,55,56,57,59,60,62,63,64,65,66,67,68,69,70,71,72,73,74,75,76,77,78,79,80,81,82,83,84,85,86,87,88,89,90,91,92,93,94,95,96,123,125,10]
def Bad (l : List Nat) : Prop := (∃ n, 17 ≤ n ∧ n ≤ 20 ∧ Name n l) ∨ ∃ c ∈ ODD, l = [c]
def sp_law_bad : Sp := sp1 fun x H Q _ => ∃ a : Addr, x = .ref a ∧ Dice a H ∧ ∀ l H', Bad l → After a H H' → Q (.str (S l)) H'
theorem ok_law_bad (T : Txt K mg) {fd : FuncData} (F : Fn_law_bad K fd) (hm : mg "_law_bad" = some (.ref (He.ga K "_law_bad"))) (c_law_draw : CalX P w K mg base CX0 1 "_law_draw" sp_law_draw) (c_law_name : CalX P w K mg base CX0 2 "_law_name" sp_law_name) : CalX P w K mg base CX0 3 "_law_bad" sp_law_bad := by
  refine calx0 (k := 2) F hm sc_law_bad (b_law_bad F) (fun _ _ _ _ h => sp1_len h) (fun cdv A outer s H vs Q E hr h => ?_)
  obtain ⟨x0, rfl, h⟩ := h
  refine ⟨_, (pss_cons (ps_if (pt_cmpR op_eq (pe_cx c_law_draw hr (by decide) rfl pass0 (pa_cons (pv 0) (pa_cons pe_int pa_nil))) pe_int (nomark _))
    (pss_one (ps_ret (pe_cx c_law_name hr (by decide) rfl pass0 (pa_cons (pv 0) (pa_cons (pe_op op_addI pe_int (pe_cx c_law_draw hr (by decide) rfl pass0 (pa_cons (pv 0) (pa_cons pe_int pa_nil)))) pa_nil)))))
    pss_nil)
    (pss_cons (ps_set (i := 1) sc_law_bad.nd rfl (Or.inl rfl) pe_str)
    (pss_one (ps_ret (pe_ix ix_str (pv 1) (pe_cx c_law_draw hr (by decide) rfl pass0 (pa_cons (pv 0) (pa_cons (pe_callB call_lenT (by rfl) T.f_len PySem.boot_len (pa_cons (pv 1) pa_nil)) pa_nil))) (fun _ _ => rfl)))))), ?_⟩
  rw [show start ["dice", "odd"] [x0] = [some x0, none] from rfl]
  obtain ⟨a, rfl, hD, hQ⟩ := h
  have e1 : Str.ofString "!\"#$*+-/0123456789;<>?@ABCDEFGHIJKLMNOPQRSTUVWXYZ[\\]^_`{}\n" = S ODD := S_ofs (by decide +kernel)
  rw [e1]
  try dsimp only [cxOf]
  walk_at "w"
  refine ⟨_, _, rfl, a, 3, rfl, rfl, by omega, by omega, hD, fun v H1 hv A1 => ?_⟩
  walk_at "w"
  refine w_dec (fun h1 => ?_) (fun h1 => ?_)
  · walk_at "w"
    refine ⟨_, _, rfl, a, 4, rfl, rfl, by omega, by omega, A1.1, fun u H2 hu A2 => ?_⟩
    walk_at "w"
    refine ⟨_, _, rfl, a, 17 + u, rfl, rfl, by omega, by omega, A2.1, fun l H3 hl A3 => ?_⟩
    walk_at "w"
    exact hQ l H3 (.inl ⟨17 + u, by omega, by omega, hl⟩) ((A1.trans A2).trans A3)
  walk_at "w"
  refine w_lenS (by decide) ?_
  walk_at "w"
  refine ⟨_, _, rfl, a, ODD.length, rfl, rfl, by decide, by decide, A1.1, fun u H2 hu A2 => ?_⟩
  walk_at "w"
  have hu' : u < ODD.length := by omega
  refine w_ixS (c := ODD[u]) (by decide) (List.getElem?_eq_getElem hu') ?_
  walk_at "w"
  exact hQ _ _ (.inr ⟨_, List.getElem_mem hu', rfl⟩) (A1.trans A2)

def sticks (last wd : List Nat) : Bool := decide (last ≠ []) && ((last[0]?.any (fun c => decide (c ∈ LET)) && wd[0]?.any (fun c => decide (c ∈ LET))) || (decide (last = [124]) && decide (wd = [45, 62])))
def sp_law_sticks : Sp := sp2 fun x y H Q _ => ∃ l d : List Nat, x = .str (S l) ∧ y = .str (S d) ∧ l.length ≤ 1000 ∧ d.length ≤ 1000 ∧ d ≠ [] ∧ Q (.bl (sticks l d)) H
theorem ok_law_sticks (T : Txt K mg) {fd : FuncData} (F : Fn_law_sticks K fd) (hm : mg "_law_sticks" = some (.ref (He.ga K "_law_sticks")))  : CalX P w K mg base CX0 1 "_law_sticks" sp_law_sticks := by
  refine calx0 (k := 0) F hm sc_law_sticks (b_law_sticks F) (fun _ _ _ _ h => sp2_len h) (fun cdv A outer s H vs Q E hr h => ?_)
  obtain ⟨x0, x1, rfl, h⟩ := h
  refine ⟨_, (pss_cons (ps_set (i := 2) sc_law_sticks.nd rfl (Or.inl rfl) pe_str)
    (pss_cons (ps_if (pt_cmpR op_eq (pv 0) pe_str (nomark _))
    (pss_one (ps_ret pe_bl))
    pss_nil)
    (pss_cons (ps_if (PW.pt (pw_and (pt_cmpR op_inC (pe_ix ix_str (pv 0) pe_int (fun _ _ => rfl)) (pv 2) rfl) (pw_and1 (pt_cmpR op_inC (pe_ix ix_str (pv 1) pe_int (fun _ _ => rfl)) (pv 2) rfl))))
    (pss_one (ps_ret pe_bl))
    pss_nil)
    (pss_one (ps_ret (pe_and (pe_cmpR op_eq (pv 0) pe_str (nomark _)) (pe_one (pe_cmpR op_eq (pv 1) pe_str (nomark _))))))))), ?_⟩
  rw [show start ["last", "word", "letters"] [x0, x1] = [some x0, some x1, none] from rfl]
  obtain ⟨l, d, rfl, rfl, hl, hd, hne, hQ⟩ := h
  have e1 : Str.ofString "" = S [] := S_ofs (by decide +kernel)
  have e2 : Str.ofString "|" = S [124] := S_ofs (by decide +kernel)
  have e3 : Str.ofString "->" = S [45, 62] := S_ofs (by decide +kernel)
  have hz : ∀ z : List Nat, z.length ≤ 1000 → z.length ≤ sizeLine := fun z h => Nat.le_trans h (by decide)
  rw [S_ofs tl_let, e1, e2, e3]
  try dsimp only [cxOf]
  walk_at "w"
  refine w_dec (fun h1 => ?_) (fun h1 => ?_)
  · walk_at "w"
    subst h1
    exact hQ
  obtain ⟨c, r, rfl⟩ : ∃ c r, l = c :: r := by
    cases l with
    | nil => exact absurd rfl h1
    | cons c r => exact ⟨c, r, rfl⟩
  obtain ⟨b, q, rfl⟩ : ∃ b q, d = b :: q := by
    cases d with
    | nil => exact absurd rfl hne
    | cons c r => exact ⟨c, r, rfl⟩
  have hs : sticks (c :: r) (b :: q) = ((decide (c ∈ LET) && decide (b ∈ LET)) || (decide (c :: r = [124]) && decide (b :: q = [45, 62]))) := by
    unfold sticks
    simp
  rw [hs] at hQ
  walk_at "w"
  refine w_ixS (n := 0) (c := c) (hz _ hl) rfl ?_
  walk_at "w"
  have last : (decide (c ∈ LET) && decide (b ∈ LET)) = false → Q (.bl (decide (c :: r = [124]) && decide (b :: q = [45, 62]))) H := fun z => by rw [z, Bool.false_or] at hQ; exact hQ
  have fin : (decide (c ∈ LET) && decide (b ∈ LET)) = false → tRet (tAndV (tOp rEq (tVar 0) (tC (V.str (S [124])))) (tOp rEq (tVar 1) (tC (V.str (S [45, 62]))))) { nx := fun x H' => Q V.non H', rt := Q } [some (V.str (S (c :: r))), some (V.str (S (b :: q))), some (V.str (S LET))] H := fun z => by
    have last := last z
    walk_at "w"
    refine w_dec (fun h2 => ?_) (fun h2 => ?_)
    · walk_at "w"
      rw [decide_eq_true h2, Bool.true_and] at last
      exact last
    · walk_at "w"
      rw [decide_eq_false h2, Bool.false_and] at last
      exact last
  refine w_dec (fun h2 => ?_) (fun h2 => ?_)
  · walk_at "w"
    refine w_ixS (n := 0) (c := b) (hz _ hd) rfl ?_
    walk_at "w"
    refine w_dec (fun h3 => ?_) (fun h3 => ?_)
    · walk_at "w"
      rw [decide_eq_true h2, decide_eq_true h3] at hQ
      exact hQ
    · exact fin (by rw [decide_eq_false h3, Bool.and_false])
  · exact fin (by rw [decide_eq_false h2, Bool.false_and])

end
end K12

namespace K12
open PySem PySem.Spec PyProof.Rows L2 SX
local macro_rules | `(tactic| walk_at "w1") => `(tactic| (first
  | with_reducible refine w_seq ?_ | with_reducible refine w_asgN ?_ | with_reducible refine w_c ?_
  | ((with_reducible refine' w_var ?wv ?_); (case wv => exact rfl))
  | with_reducible refine w_op ?_ | with_reducible refine w_un ?_ | with_reducible refine w_next ?_ | with_reducible refine w_brk ?_ | with_reducible refine w_cnt ?_
  | with_reducible refine w_ifS ?_ | with_reducible refine w_if ?_ | with_reducible refine w_test ?_ | with_reducible refine w_tB ?_ | with_reducible refine w_bl ?_ | with_reducible refine w_blI ?_
  | with_reducible refine w_and ?_ | with_reducible refine w_or ?_ | with_reducible refine w_not ?_ | with_reducible refine w_andV ?_ | with_reducible refine w_orV ?_ | with_reducible refine w_notV ?_
  | with_reducible refine w_nil ?_ | with_reducible refine w_cons ?_ | with_reducible refine w_cb ?_ | with_reducible refine w_call ?_ | with_reducible refine w_callS ?_ | with_reducible refine w_chain ?_
  | with_reducible refine w_tup ?_ | with_reducible refine w_lst ?_ | with_reducible refine w_sl ?_ | with_reducible refine w_noPart ?_ | with_reducible refine w_part ?_ | with_reducible refine w_partI ?_
  | with_reducible refine w_ret ?_ | with_reducible refine w_retN ?_ | with_reducible refine w_drop ?_ | with_reducible refine w_asg ?_ | with_reducible refine w_gSub ?_
  | ((with_reducible refine' w_aug ?wv ?_); (case wv => exact rfl)) | with_reducible refine w_ipI ?_
  | with_reducible refine w_addI ?_ | with_reducible refine w_subI ?_ | with_reducible refine w_ltI ?_ | with_reducible refine w_leI ?_ | with_reducible refine w_gtI ?_ | with_reducible refine w_geI ?_
  | with_reducible refine w_eqI ?_ | with_reducible refine w_neI ?_ | with_reducible refine w_eqT ?_ | with_reducible refine w_neT ?_ | with_reducible refine w_inS ?_ | with_reducible refine w_ninS ?_
  | with_reducible refine w_absI ?_ | with_reducible refine w_intI ?_ | with_reducible refine w_maxI ?_ | with_reducible refine w_minI ?_
  | with_reducible refine w_for ?_ | with_reducible refine w_iR1 ?_ | with_reducible refine w_iR2 ?_ | with_reducible refine w_iStr ?_ | with_reducible refine w_strI ?_ | with_reducible refine w_iList ?_ | with_reducible refine w_iTup ?_
  | with_reducible refine w_bm ?_ | with_reducible refine w_bm0 ?_ | with_reducible refine w_t ?_ | with_reducible refine w_f ?_ | with_reducible refine w_nt ?_ | with_reducible refine w_nx ?_ | with_reducible refine w_rt ?_ | with_reducible refine w_bk ?_ | with_reducible refine w_ct ?_ | with_reducible refine w_nf ?_))
local macro_rules | `(tactic| walk_at "w") => `(tactic| (repeat (first | walk_at "w1" | dsimp (config := { proj := false }) only [List.set_cons_zero, List.set_cons_succ])))
section
variable {w : World} {K : PySem.W.Frag} {mg : Str → Option Value} {base : Heap}

theorem szl {n m : Nat} (h : n ≤ m) (hm : m ≤ 16777216 := by omega) : n ≤ sizeLine := by rw [sizeLine_eq]; omega
def sp_law_changed : Sp := sp2 fun x y H Q _ => ∃ (a : Addr) (l : List Nat), x = .ref a ∧ y = .str (S l) ∧ l.length ≤ 5000 ∧ Dice a H ∧ ∀ l' H', l'.length ≤ 5001 → After a H H' → Q (.str (S l')) H'
theorem ok_law_changed (T : Txt K mg) {fd : FuncData} (F : Fn_law_changed K fd) (hm : mg "_law_changed" = some (.ref (He.ga K "_law_changed"))) (c_law_draw : CalX P w K mg base CX0 1 "_law_draw" sp_law_draw) : CalX P w K mg base CX0 2 "_law_changed" sp_law_changed := by
  refine calx0 (k := 1) F hm sc_law_changed (b_law_changed F) (fun _ _ _ _ h => sp2_len h) (fun cdv A outer s H vs Q E hr h => ?_)
  obtain ⟨x0, x1, rfl, h⟩ := h
  refine ⟨_, (pss_cons (ps_set (i := 2) sc_law_changed.nd rfl (Or.inl rfl) pe_str)
    (pss_cons (ps_set (i := 2) sc_law_changed.nd rfl (Or.inl rfl) (pe_op op_catS (pv 2) pe_str))
    (pss_cons (ps_set (i := 3) sc_law_changed.nd rfl (Or.inl rfl) (pe_cx c_law_draw hr (by decide) rfl pass0 (pa_cons (pv 0) (pa_cons pe_int pa_nil))))
    (pss_cons (ps_set (i := 4) sc_law_changed.nd rfl (Or.inl rfl) (pe_ix ix_str (pv 2) (pe_cx c_law_draw hr (by decide) rfl pass0 (pa_cons (pv 0) (pa_cons (pe_callB call_lenT (by rfl) T.f_len PySem.boot_len (pa_cons (pv 2) pa_nil)) pa_nil))) (fun _ _ => rfl)))
    (pss_cons (ps_set (i := 5) sc_law_changed.nd rfl (Or.inl rfl) (pe_cx c_law_draw hr (by decide) rfl pass0 (pa_cons (pv 0) (pa_cons (pe_op op_addI (pe_callB call_lenT (by rfl) T.f_len PySem.boot_len (pa_cons (pv 1) pa_nil)) pe_int) pa_nil))))
    (pss_cons (ps_if (pt_cmpR op_eq (pv 3) pe_int (nomark _))
    (pss_one (ps_ret (pe_op op_catS (pe_op op_catS (pe_slice sl_str (pv 1) po_none (po_some (pv 5))) (pv 4)) (pe_slice sl_str (pv 1) (po_some (pv 5)) po_none))))
    pss_nil)
    (pss_cons (ps_if (pt_cmpR op_eq (pv 3) pe_int (nomark _))
    (pss_one (ps_ret (pe_op op_catS (pe_op op_catS (pe_slice sl_str (pv 1) po_none (po_some (pv 5))) (pv 4)) (pe_slice sl_str (pv 1) (po_some (pe_op op_addI (pv 5) pe_int)) po_none))))
    pss_nil)
    (pss_one (ps_ret (pe_op op_catS (pe_slice sl_str (pv 1) po_none (po_some (pv 5))) (pe_slice sl_str (pv 1) (po_some (pe_op op_addI (pv 5) pe_int)) po_none))))))))))), ?_⟩
  rw [show start ["dice", "text", "chars", "way", "char", "spot"] [x0, x1] = [some x0, some x1, none, none, none, none] from rfl]
  obtain ⟨a, l, rfl, rfl, hl, hD, hQ⟩ := h
  obtain ⟨C1, e1⟩ : ∃ z : List Nat, Str.ofString " !\"#$&'()*+,-./0123456789:;<=>?@ABCDEFGHIJKLMNOPQRSTUVWXYZ[\\]^_`" = S z ∧ z.length = 64 := ⟨_, S_ofs rfl, by decide +kernel⟩
  obtain ⟨C2, e2⟩ : ∃ z : List Nat, Str.ofString "abcdefghijklmnopqrstuvwxyz{|}~\n" = S z ∧ z.length = 31 := ⟨_, S_ofs rfl, by decide +kernel⟩
  rw [e1.1, e2.1]
  try dsimp only [cxOf]
  walk_at "w"
  refine w_catT (szl (by rw [e1.2, e2.2]; exact Nat.le_refl 95)) ?_
  walk_at "w"
  refine ⟨_, _, rfl, a, 3, rfl, rfl, by omega, by omega, hD, fun v H1 hv A1 => ?_⟩
  walk_at "w"
  have hC : (C1 ++ C2).length = 95 := by rw [List.length_append, e1.2, e2.2]
  refine w_lenS (szl (Nat.le_of_eq hC)) ?_
  walk_at "w"
  refine ⟨_, _, rfl, a, (C1 ++ C2).length, rfl, rfl, by omega, by omega, A1.1, fun u H2 hu A2 => ?_⟩
  walk_at "w"
  have hu' : u < (C1 ++ C2).length := by omega
  refine w_ixS (c := (C1 ++ C2)[u]) (szl (Nat.le_of_eq hC)) (List.getElem?_eq_getElem hu') ?_
  walk_at "w"
  refine w_lenS (szl hl) ?_
  walk_at "w"
  refine ⟨_, _, rfl, a, (l.length : Int) + 1, rfl, rfl, by omega, by omega, A2.1, fun p H3 hp A3 => ?_⟩
  walk_at "w"
  have A := (A1.trans A2).trans A3
  have t1 : (l.take p).length ≤ p := by rw [List.length_take]; omega
  have d1 : ∀ q, (l.drop q).length ≤ 5000 := fun q => by rw [List.length_drop]; omega
  have hp' : p ≤ l.length := by omega
  have tp : (l.take p).length = p := by rw [List.length_take]; omega
  refine w_dec (fun h1 => ?_) (fun h1 => ?_)
  · walk_at "w"
    refine w_cutTo (szl hl) ?_
    walk_at "w"
    refine w_catT (b := [_]) (by rw [tp]; exact szl (show p + 1 ≤ 5001 by omega)) ?_
    walk_at "w"
    refine w_cutFrom (szl hl) ?_
    walk_at "w"
    refine w_catT (by rw [List.length_append, tp, List.length_drop]; exact szl (show p + 1 + (l.length - p) ≤ 5001 by omega)) ?_
    walk_at "w"
    exact hQ _ _ (by rw [List.length_append, List.length_append, tp, List.length_drop]; show p + 1 + (l.length - p) ≤ 5001; omega) A
  walk_at "w"
  refine w_dec (fun h2 => ?_) (fun h2 => ?_)
  · walk_at "w"
    refine w_cutTo (szl hl) ?_
    walk_at "w"
    refine w_catT (b := [_]) (by rw [tp]; exact szl (show p + 1 ≤ 5001 by omega)) ?_
    walk_at "w"
    refine w_cutFrom (a := p + 1) (szl hl) ?_
    walk_at "w"
    refine w_catT (by rw [List.length_append, tp, List.length_drop]; exact szl (show p + 1 + (l.length - (p + 1)) ≤ 5001 by omega)) ?_
    walk_at "w"
    exact hQ _ _ (by rw [List.length_append, List.length_append, tp, List.length_drop]; show p + 1 + (l.length - (p + 1)) ≤ 5001; omega) A
  · walk_at "w"
    refine w_cutTo (szl hl) ?_
    walk_at "w"
    refine w_cutFrom (a := p + 1) (szl hl) ?_
    walk_at "w"
    refine w_catT (by rw [tp, List.length_drop]; exact szl (show p + (l.length - (p + 1)) ≤ 5001 by omega)) ?_
    walk_at "w"
    exact hQ _ _ (by rw [List.length_append, tp, List.length_drop]; omega) A

def sp_law_signs : Sp := sp1 fun x H Q _ => ∃ a : Addr, x = .ref a ∧ Dice a H ∧ ∀ l' H', l'.length ≤ 31 → After a H H' → Q (.str (S l')) H'
theorem ok_law_signs (T : Txt K mg) {fd : FuncData} (F : Fn_law_signs K fd) (hm : mg "_law_signs" = some (.ref (He.ga K "_law_signs"))) (c_law_draw : CalX P w K mg base CX0 1 "_law_draw" sp_law_draw) : CalX P w K mg base CX0 2 "_law_signs" sp_law_signs := by
  refine calx0 (k := 1) F hm sc_law_signs (b_law_signs F) (fun _ _ _ _ h => sp1_len h) (fun cdv A outer s H vs Q E hr h => ?_)
  obtain ⟨x0, rfl, h⟩ := h
  refine ⟨_, (pss_cons (ps_set (i := 1) sc_law_signs.nd rfl (Or.inl rfl) pe_str)
    (pss_cons (ps_set (i := 2) sc_law_signs.nd rfl (Or.inl rfl) pe_str)
    (pss_cons (ps_for PassesOwn.never rfl (pi_range1 (by rfl) T.f_range (pa_cons (pe_cx c_law_draw hr (by decide) rfl pass0 (pa_cons (pv 0) (pa_cons pe_int pa_nil))) pa_nil)) (pg_name (i := 3) sc_law_signs.nd rfl (Or.inl rfl))
    (pss_one (ps_set (i := 2) sc_law_signs.nd rfl (Or.inl rfl) (pe_op op_catS (pv 2) (pe_ix ix_str (pv 1) (pe_cx c_law_draw hr (by decide) rfl pass0 (pa_cons (pv 0) (pa_cons (pe_callB call_lenT (by rfl) T.f_len PySem.boot_len (pa_cons (pv 1) pa_nil)) pa_nil))) (fun _ _ => rfl))))))
    (pss_one (ps_ret (pv 2)))))), ?_⟩
  rw [show start ["dice", "chars", "text", "k"] [x0] = [some x0, none, none, none] from rfl]
  obtain ⟨a, rfl, hD, hQ⟩ := h
  obtain ⟨C1, e1⟩ : ∃ z : List Nat, Str.ofString "()=>|-&~:.,'a1_ Zb=>|-> \n" = S z ∧ z.length = 25 := ⟨_, S_ofs rfl, by decide +kernel⟩
  have e2 : Str.ofString "" = S [] := S_ofs (by decide +kernel)
  rw [e1.1, e2]
  try dsimp only [cxOf]
  walk_at "w"
  refine ⟨_, _, rfl, a, 32, rfl, rfl, by omega, by omega, hD, fun v H1 hv A1 => ?_⟩
  walk_at "w"
  refine w_rg1 (by omega) (by omega) ?_
  refine for_range (fun i σ H' => After a H H' ∧ ∃ l v, σ = [some (.ref a), some (.str (S C1)), some (.str (S l)), v] ∧ l.length = i) ⟨A1, [], _, rfl, rfl⟩ ?_ ?_
  · rintro i σ H2 hi ⟨A2, l, v, rfl, hl⟩
    dsimp only [gName]
    walk_at "w"
    refine w_lenS (szl (Nat.le_of_eq e1.2)) ?_
    walk_at "w"
    refine ⟨_, _, rfl, a, C1.length, rfl, rfl, by omega, by omega, A2.1, fun u H3 hu A3 => ?_⟩
    walk_at "w"
    have hu' : u < C1.length := by omega
    refine w_ixS (c := C1[u]) (szl (Nat.le_of_eq e1.2)) (List.getElem?_eq_getElem hu') ?_
    walk_at "w"
    refine w_catT (b := [_]) (by rw [hl]; exact szl (show i + 1 ≤ 1000 by omega)) ?_
    walk_at "w"
    exact ⟨A2.trans A3, _, _, rfl, by rw [List.length_append, hl]; rfl⟩
  · rintro σ H2 ⟨A2, l, v, rfl, hl⟩
    walk_at "w"
    exact hQ l H2 (by omega) A2

def sp_law_long : Sp := sp2 fun x y H Q _ => ∃ (a : Addr) (l : List Nat), x = .ref a ∧ y = .str (S l) ∧ l.length ≤ 5000 ∧ Dice a H ∧ ∀ l' H', l'.length ≤ 90000 → After a H H' → Q (.str (S l')) H'
def FILL : List (List Nat) := [[32], [40], [120, 32], [61, 62, 124], [120, 49, 32, 45, 62, 32]]
theorem fill_vs : ([.str " ", .str "(", .str "x ", .str "=>|", .str "x1 -> "] : List V) = FILL.map fun r => V.str (S r) := by decide +kernel
theorem fill_len {l : List Nat} (h : l ∈ FILL) : l.length ≤ 6 := by
  revert l; decide
theorem rep_len (n : Nat) (l : List Nat) : ((List.replicate n l).flatten).length = n * l.length := by
  induction n with
  | zero => simp
  | succ n ih => rw [List.replicate_succ, List.flatten_cons, List.length_append, ih, Nat.succ_mul, Nat.add_comm]
theorem after_ne {a p : Addr} {H H1 : Hp} (h : After a H H1) (hp : H1 p = none) : p ≠ a := by
  obtain ⟨_, _, _, e, _⟩ := h.1
  exact Ne.symm (ne_of_none e hp)
theorem ok_law_long (T : Txt K mg) {fd : FuncData} (F : Fn_law_long K fd) (hm : mg "_law_long" = some (.ref (He.ga K "_law_long"))) (c_law_draw : CalX P w K mg base CX0 1 "_law_draw" sp_law_draw) : CalX P w K mg base CX0 2 "_law_long" sp_law_long := by
  refine calx0 (k := 1) F hm sc_law_long (b_law_long F) (fun _ _ _ _ h => sp2_len h) (fun cdv A outer s H vs Q E hr h => ?_)
  obtain ⟨x0, x1, rfl, h⟩ := h
  refine ⟨_, (pss_cons (ps_set (i := 2) sc_law_long.nd rfl (Or.inl rfl) (pe_ix ix_list (pe_lst (pa_cons pe_int (pa_cons pe_int (pa_cons pe_int (pa_cons pe_int (pa_cons pe_int pa_nil)))))) (pe_cx c_law_draw hr (by decide) rfl pass0 (pa_cons (pv 0) (pa_cons pe_int pa_nil))) (fun _ _ => rfl)))
    (pss_cons (ps_set (i := 3) sc_law_long.nd rfl (Or.inl rfl) (pe_ix ix_list (pe_lst (pa_cons pe_str (pa_cons pe_str (pa_cons pe_str (pa_cons pe_str (pa_cons pe_str pa_nil)))))) (pe_cx c_law_draw hr (by decide) rfl pass0 (pa_cons (pv 0) (pa_cons pe_int pa_nil))) (fun _ _ => rfl)))
    (Evl.pss_cut (ps_if (pt_cmpR op_eq (pe_cx c_law_draw hr (by decide) rfl pass0 (pa_cons (pv 0) (pa_cons pe_int pa_nil))) pe_int (nomark _))
    (pss_one (ps_set (i := 1) sc_law_long.nd rfl (Or.inl rfl) (pe_op op_catS (pe_op op_catS (pe_slice sl_str (pe_op op_repS (pv 3) pe_int) po_none (po_some (pe_op op_subI (pe_op op_subI (pv 2) (pe_callB call_lenT (by rfl) T.f_len PySem.boot_len (pa_cons (pv 1) pa_nil))) pe_int))) pe_str) (pv 1))))
    (pss_one (ps_set (i := 1) sc_law_long.nd rfl (Or.inl rfl) (pe_slice sl_str (pe_op op_catS (pe_op op_catS (pv 1) pe_str) (pe_op op_repS (pv 3) pe_int)) po_none (po_some (pv 2))))))
    (Evl.pss_cut (ps_if (pt_cmpR op_eq (pe_cx c_law_draw hr (by decide) rfl pass0 (pa_cons (pv 0) (pa_cons pe_int pa_nil))) pe_int (nomark _))
    (pss_one (ps_set (i := 1) sc_law_long.nd rfl (Or.inl rfl) (pe_op op_catS (pe_slice sl_str (pv 1) po_none (po_some (pe_op op_subI (pv 2) pe_int))) pe_str)))
    pss_nil)
    (pss_one (ps_ret (pv 1))))))), ?_⟩
  rw [show start ["dice", "text", "total", "fill"] [x0, x1] = [some x0, some x1, none, none] from rfl]
  obtain ⟨a, l, rfl, rfl, hl, hD, hQ⟩ := h
  have e1 : Str.ofString "?" = S [63] := S_ofs (by decide +kernel)
  try dsimp only [cxOf]
  walk_at "w"
  refine w_new (Nat.le_of_ble_eq_true rfl) (fun p hp => ?_)
  walk_at "w"
  have A0 : After a H H := ⟨hD, KeepB.refl _ _⟩
  refine ⟨_, _, rfl, a, 5, rfl, rfl, by omega, by omega, hD.new hp, fun v H1 hv A1 => ?_⟩
  have hp1 : H1 p = some _ := A1.2 p _ (after_ne A0 hp) upd_same
  obtain ⟨tot, ht, ht2, ht3⟩ : ∃ tot : Nat, ([.int 19999, .int 20000, .int 20001, .int 20002, .int 60000] : List V)[v]? = some (.int (tot : Int)) ∧ 19999 ≤ tot ∧ tot ≤ 60000 := by
    have hv' : v < 5 := by omega
    match v, hv' with
    | 0, _ => exact ⟨19999, rfl, by omega, by omega⟩
    | 1, _ => exact ⟨20000, rfl, by omega, by omega⟩
    | 2, _ => exact ⟨20001, rfl, by omega, by omega⟩
    | 3, _ => exact ⟨20002, rfl, by omega, by omega⟩
    | 4, _ => exact ⟨60000, rfl, by omega, by omega⟩
  refine w_ixL (SqL.of hp1) ht ?_
  walk_at "w"
  have A1 := (A0.new hp).trans A1
  refine w_new (Nat.le_of_ble_eq_true rfl) (fun p2 hp2 => ?_)
  walk_at "w"
  refine ⟨_, _, rfl, a, 5, rfl, rfl, by omega, by omega, A1.1.new hp2, fun u H2 hu A2 => ?_⟩
  have hp3 : H2 p2 = some _ := A2.2 p2 _ (after_ne A1 hp2) upd_same
  have A2 := (A1.new hp2).trans A2
  have hu' : u < FILL.length := by show u < 5; omega
  refine w_ixL (v := .str (S FILL[u])) (SqL.of hp3) (by rw [fill_vs, List.getElem?_map, List.getElem?_eq_getElem hu']; rfl) ?_
  have hf := fill_len (List.getElem_mem hu')
  generalize FILL[u] = fl at hf
  walk_at "w"
  rw [e1]
  refine w_mid (fun σ H' => After a H H' ∧ ∃ l' f, σ = [some (.ref a), some (.str (S l')), some (.int (tot : Int)), f] ∧ l'.length ≤ 80000) ?_ ?_
  · walk_at "w"
    refine ⟨_, _, rfl, a, 2, rfl, rfl, by omega, by omega, A2.1, fun c H3 hc A3 => ?_⟩
    have A3 := A2.trans A3
    have hfl : fl.length * 60000 ≤ 1000000 := Nat.le_trans (Nat.mul_le_mul_right _ hf) (by decide)
    have hrl := rep_len 60000 fl
    have e2 : Str.ofString " " = S [32] := S_ofs (by decide +kernel)
    rw [e2]
    walk_at "w"
    refine w_dec (fun h1 => ?_) (fun h1 => ?_)
    · walk_at "w"
      refine w_repT (n := 60000) hfl ?_
      walk_at "w"
      refine w_lenS (szl hl) ?_
      walk_at "w"
      rw [show (tot : Int) - (l.length : Int) - 1 = ((tot - l.length - 1 : Nat) : Int) by omega]
      refine w_cutTo (szl (Nat.le_trans (Nat.le_of_eq hrl) (by rw [Nat.mul_comm]; exact hfl))) ?_
      walk_at "w"
      have h2 : (((List.replicate 60000 fl).flatten).take (tot - l.length - 1)).length ≤ 60000 := by rw [List.length_take]; omega
      refine w_catT (b := [32]) (szl (show _ ≤ 60001 from Nat.add_le_add_right h2 1)) ?_
      walk_at "w"
      have h3 : (((List.replicate 60000 fl).flatten).take (tot - l.length - 1) ++ [32]).length ≤ 60001 := by rw [List.length_append]; exact Nat.add_le_add_right h2 1
      refine w_catT (szl (Nat.add_le_add h3 hl)) ?_
      walk_at "w"
      exact ⟨A3, _, _, rfl, by rw [List.length_append]; omega⟩
    · walk_at "w"
      refine w_catT (b := [32]) (szl (show l.length + 1 ≤ 5001 by omega)) ?_
      walk_at "w"
      refine w_repT (n := 60000) hfl ?_
      walk_at "w"
      have h2 : (l ++ [32]).length ≤ 5001 := by rw [List.length_append]; exact Nat.add_le_add_right hl 1
      have h3 : ((List.replicate 60000 fl).flatten).length ≤ 1000000 := by rw [hrl, Nat.mul_comm]; exact hfl
      refine w_catT (szl (Nat.add_le_add h2 h3)) ?_
      walk_at "w"
      refine w_cutTo (szl (show _ ≤ 1005001 by rw [List.length_append]; exact Nat.add_le_add h2 h3)) ?_
      walk_at "w"
      exact ⟨A3, _, _, rfl, by rw [List.length_take]; omega⟩
  rintro σ H3 ⟨A3, l', f, rfl, hl'⟩
  walk_at "w"
  refine w_mid (fun σ H' => After a H H' ∧ ∃ l'' f, σ = [some (.ref a), some (.str (S l'')), some (.int (tot : Int)), f] ∧ l''.length ≤ 90000) ?_ ?_
  rotate_left
  · rintro σ H4 ⟨A4, l'', f, rfl, hl''⟩
    walk_at "w"
    exact hQ _ _ hl'' A4
  walk_at "w"
  refine ⟨_, _, rfl, a, 2, rfl, rfl, by omega, by omega, A3.1, fun c H4 hc A4 => ?_⟩
  have A4 := A3.trans A4
  walk_at "w"
  refine w_dec (fun h1 => ?_) (fun h1 => ?_)
  · walk_at "w"
    rw [show (tot : Int) - 1 = ((tot - 1 : Nat) : Int) by omega]
    refine w_cutTo (szl hl') ?_
    walk_at "w"
    have h2 : (l'.take (tot - 1)).length ≤ 80000 := by rw [List.length_take]; omega
    refine w_catT (b := [63]) (szl (show _ ≤ 80001 from Nat.add_le_add_right h2 1)) ?_
    walk_at "w"
    exact ⟨A4, _, _, rfl, by rw [List.length_append]; exact Nat.le_trans (Nat.add_le_add_right h2 1) (by decide)⟩
  · walk_at "w"
    exact ⟨A4, _, _, rfl, by omega⟩

end
end K12

namespace K12
open PySem PySem.Spec PyProof.Rows L2 SX
local macro_rules | `(tactic| walk_at "w1") => `(tactic| (first
  | with_reducible refine w_seq ?_ | with_reducible refine w_asgN ?_ | with_reducible refine w_c ?_
  | ((with_reducible refine' w_var ?wv ?_); (case wv => exact rfl))
  | with_reducible refine w_op ?_ | with_reducible refine w_un ?_ | with_reducible refine w_next ?_ | with_reducible refine w_brk ?_ | with_reducible refine w_cnt ?_
  | with_reducible refine w_ifS ?_ | with_reducible refine w_if ?_ | with_reducible refine w_test ?_ | with_reducible refine w_tB ?_ | with_reducible refine w_bl ?_ | with_reducible refine w_blI ?_
  | with_reducible refine w_and ?_ | with_reducible refine w_or ?_ | with_reducible refine w_not ?_ | with_reducible refine w_andV ?_ | with_reducible refine w_orV ?_ | with_reducible refine w_notV ?_
  | with_reducible refine w_nil ?_ | with_reducible refine w_cons ?_ | with_reducible refine w_cb ?_ | with_reducible refine w_call ?_ | with_reducible refine w_callS ?_ | with_reducible refine w_chain ?_
  | with_reducible refine w_tup ?_ | with_reducible refine w_lst ?_ | with_reducible refine w_sl ?_ | with_reducible refine w_noPart ?_ | with_reducible refine w_part ?_ | with_reducible refine w_partI ?_
  | with_reducible refine w_ret ?_ | with_reducible refine w_retN ?_ | with_reducible refine w_drop ?_ | with_reducible refine w_asg ?_ | with_reducible refine w_gSub ?_
  | ((with_reducible refine' w_aug ?wv ?_); (case wv => exact rfl)) | with_reducible refine w_ipI ?_
  | with_reducible refine w_addI ?_ | with_reducible refine w_subI ?_ | with_reducible refine w_ltI ?_ | with_reducible refine w_leI ?_ | with_reducible refine w_gtI ?_ | with_reducible refine w_geI ?_
  | with_reducible refine w_eqI ?_ | with_reducible refine w_neI ?_ | with_reducible refine w_eqT ?_ | with_reducible refine w_neT ?_ | with_reducible refine w_inS ?_ | with_reducible refine w_ninS ?_
  | with_reducible refine w_absI ?_ | with_reducible refine w_intI ?_ | with_reducible refine w_maxI ?_ | with_reducible refine w_minI ?_
  | with_reducible refine w_for ?_ | with_reducible refine w_iR1 ?_ | with_reducible refine w_iR2 ?_ | with_reducible refine w_iStr ?_ | with_reducible refine w_strI ?_ | with_reducible refine w_iList ?_ | with_reducible refine w_iTup ?_
  | with_reducible refine w_bm ?_ | with_reducible refine w_bm0 ?_ | with_reducible refine w_t ?_ | with_reducible refine w_f ?_ | with_reducible refine w_nt ?_ | with_reducible refine w_nx ?_ | with_reducible refine w_rt ?_ | with_reducible refine w_bk ?_ | with_reducible refine w_ct ?_ | with_reducible refine w_nf ?_))
local macro_rules | `(tactic| walk_at "w") => `(tactic| (repeat (first | walk_at "w1" | dsimp (config := { proj := false }) only [List.set_cons_zero, List.set_cons_succ])))
section
variable {w : World} {K : PySem.W.Frag} {mg : Str → Option Value} {base : Heap}

theorem wl_ge : ∀ (l : List Nat) (n : Nat), (∀ j, j < n → ∃ c, l[j]? = some c ∧ c ∈ WS) → n ≤ wlen l
  | _, 0, _ => Nat.zero_le _
  | [], n + 1, h => by obtain ⟨c, e, _⟩ := h 0 (Nat.succ_pos n); cases e
  | c :: r, n + 1, h => by
    obtain ⟨d, e, hd⟩ := h 0 (Nat.succ_pos n)
    cases e
    have := wl_ge r n fun j hj => h (j + 1) (Nat.succ_lt_succ hj)
    unfold wlen at this ⊢
    rw [show (c :: r).takeWhile (fun c => decide (c ∈ WS)) = c :: r.takeWhile (fun c => decide (c ∈ WS)) from List.takeWhile_cons_of_pos (p := fun c => decide (c ∈ WS)) (decide_eq_true hd), List.length_cons]
    omega
theorem wl_eq (l : List Nat) (n : Nat) (h : ∀ j, j < n → ∃ c, l[j]? = some c ∧ c ∈ WS) (h2 : ∀ c, l[n]? = some c → c ∉ WS) : wlen l = n := by
  have e := tw_take (p := fun c => decide (c ∈ WS)) l n (fun j hj => by obtain ⟨c, a, b⟩ := h j hj; exact ⟨c, a, decide_eq_true b⟩) (fun c a => decide_eq_false (h2 c a))
  unfold wlen
  rw [e, List.length_take]
  by_cases z : n = 0
  · omega
  · obtain ⟨c, a, _⟩ := h (n - 1) (by omega)
    obtain ⟨a, _⟩ := List.getElem?_eq_some_iff.mp a
    omega
def sp_law_size : Sp := sp2 fun x y H Q _ => ∃ (l : List Nat) (p : Nat), x = .str (S l) ∧ y = .int (p : Int) ∧ l.length ≤ 100000 ∧ p < l.length ∧ ∀ H', Same H H' → Q (.int (tk (l.drop p) : Int)) H'
theorem tk_let {c : Nat} {r : List Nat} (h : c ∈ LET) : tk (c :: r) = if wlen (c :: r) ≤ 16 then wlen (c :: r) else 0 := by
  show (if c ∈ LET then _ else _) = _
  rw [if_pos h]
theorem tk_two {c : Nat} {r : List Nat} (h : c ∉ LET) (h2 : (c :: r).take 2 ∈ longs) : tk (c :: r) = 2 := by
  show (if c ∈ LET then _ else if _ then _ else _) = _
  rw [if_neg h, if_pos h2]
theorem tk_one {c : Nat} {r : List Nat} (h : c ∉ LET) (h2 : (c :: r).take 2 ∉ longs) (h3 : c ∈ shorts) : tk (c :: r) = 1 := by
  show (if c ∈ LET then _ else if _ then _ else if _ then _ else _) = _
  rw [if_neg h, if_neg h2, if_pos h3]
theorem tk_no {c : Nat} {r : List Nat} (h : c ∉ LET) (h2 : (c :: r).take 2 ∉ longs) (h3 : c ∉ shorts) : tk (c :: r) = 0 := by
  show (if c ∈ LET then _ else if _ then _ else if _ then _ else _) = _
  rw [if_neg h, if_neg h2, if_neg h3]
theorem ok_law_size (T : Txt K mg) {fd : FuncData} (F : Fn_law_size K fd) (hm : mg "_law_size" = some (.ref (He.ga K "_law_size")))  : CalX P w K mg base CX0 1 "_law_size" sp_law_size := by
  refine calx0 (k := 0) F hm sc_law_size (b_law_size F) (fun _ _ _ _ h => sp2_len h) (fun cdv A outer s H vs Q E hr h => ?_)
  obtain ⟨x0, x1, rfl, h⟩ := h
  refine ⟨_, (pss_cons (ps_set (i := 2) sc_law_size.nd rfl (Or.inl rfl) pe_str)
    (pss_cons (ps_set (i := 3) sc_law_size.nd rfl (Or.inl rfl) (pe_op op_catS (pv 2) pe_str))
    (pss_cons (ps_if (pt_cmpR op_inC (pe_ix ix_str (pv 0) (pv 1) (fun _ _ => rfl)) (pv 2) rfl)
    (pss_cons (ps_set (i := 4) sc_law_size.nd rfl (Or.inl rfl) pe_int)
    (pss_cons (ps_for PassesOwn.never rfl (pi_range2 (by rfl) T.f_range (pa_cons pe_int (pa_cons pe_int pa_nil))) (pg_name (i := 5) sc_law_size.nd rfl (Or.inl rfl))
    (pss_cons (ps_if (PW.pt (pw_or (pt_cmpR op_geI (pe_op op_addI (pv 1) (pv 5)) (pe_callB call_lenT (by rfl) T.f_len PySem.boot_len (pa_cons (pv 0) pa_nil)) (nomark _)) (pw_or1 (pt_cmpR op_notInC (pe_ix ix_str (pv 0) (pe_op op_addI (pv 1) (pv 5)) (fun _ _ => rfl)) (pv 3) rfl))))
    (pss_one ps_break)
    pss_nil)
    (pss_one (ps_set (i := 4) sc_law_size.nd rfl (Or.inl rfl) (pe_op op_addI (pv 5) pe_int)))))
    (pss_cons (ps_if (pt_cmpR op_gtI (pv 4) pe_int (nomark _))
    (pss_one (ps_ret pe_int))
    pss_nil)
    (pss_one (ps_ret (pv 4))))))
    pss_nil)
    (pss_cons (ps_if (pt_cmpR op_in_seq (pe_slice sl_str (pv 0) (po_some (pv 1)) (po_some (pe_op op_addI (pv 1) pe_int))) (pe_lst (pa_cons pe_str (pa_cons pe_str (pa_cons pe_str pa_nil)))) rfl)
    (pss_one (ps_ret pe_int))
    pss_nil)
    (pss_cons (ps_if (pt_cmpR op_inC (pe_ix ix_str (pv 0) (pv 1) (fun _ _ => rfl)) pe_str rfl)
    (pss_one (ps_ret pe_int))
    pss_nil)
    (pss_one (ps_ret pe_int))))))), ?_⟩
  rw [show start ["text", "spot", "letters", "more", "size", "k"] [x0, x1] = [some x0, some x1, none, none, none, none] from rfl]
  obtain ⟨l, p, rfl, rfl, hl, hp, hQ⟩ := h
  have hz : l.length ≤ sizeLine := szl hl
  have e1 : Str.ofString "0123456789_" = S [48,49,50,51,52,53,54,55,56,57,95] := S_ofs (by decide +kernel)
  have e2' : Str.ofString "():.,'=&|~" = S shorts := S_ofs (by decide +kernel)
  have e3 : Str.ofString "=>" = S [61, 62] := S_ofs (by decide +kernel)
  have e4 : Str.ofString "->" = S [45, 62] := S_ofs (by decide +kernel)
  have e5 : Str.ofString "|-" = S [124, 45] := S_ofs (by decide +kernel)
  rw [S_ofs tl_let, e1, e2', e3, e4, e5]
  try dsimp only [cxOf]
  walk_at "w"
  refine w_catT (Nat.le_of_ble_eq_true rfl) ?_
  rw [show LET ++ [48,49,50,51,52,53,54,55,56,57,95] = WS from rfl]
  walk_at "w"
  have hc := List.getElem?_eq_getElem hp
  have hd := List.drop_eq_getElem_cons hp
  refine w_ixS hz hc ?_
  walk_at "w"
  refine w_dec (fun h1 => ?_) (fun h1 => ?_)
  · walk_at "w"
    refine w_rg2 (by omega) ?_
    have tkv : tk (l.drop p) = if wlen (l.drop p) ≤ 16 then wlen (l.drop p) else 0 := by rw [hd]; exact tk_let h1
    refine for_range (fun i σ H' => H' = H ∧ ∃ v, σ = [some (.str (S l)), some (.int (p : Int)), some (.str (S LET)), some (.str (S WS)), some (.int ((i : Int) + 1)), v] ∧ ∀ j, j < i + 1 → ∃ c, (l.drop p)[j]? = some c ∧ c ∈ WS) ⟨rfl, _, rfl, fun j hj => ?_⟩ ?_ ?_
    · have : j = 0 := by omega
      subst this
      exact ⟨_, by rw [hd]; rfl, let_ws h1⟩
    · rintro i σ H2 hi ⟨rfl, v, rfl, hW⟩
      have hi : i < 16 := hi
      dsimp only [gName]
      walk_at "w"
      refine w_lenS hz ?_
      have brk : (∀ c, (l.drop p)[i + 1]? = some c → c ∉ WS) → wlen (l.drop p) = i + 1 := fun z => wl_eq _ _ hW z
      walk_at "w"
      refine w_dec (fun h2 => ?_) (fun h2 => ?_)
      · walk_at "w"
        have e := brk fun c hc' => by
          rw [List.getElem?_drop, List.getElem?_eq_none (by omega)] at hc'; cases hc'
        refine w_dec (fun h3 => ?_) (fun h3 => ?_)
        · omega
        · walk_at "w"
          have := hQ _ (Same.refl _)
          rw [tkv, if_pos (by omega), e] at this
          exact this
      · have h2' : p + (i + 1) < l.length := by omega
        have ea : (p : Int) + (1 + (i : Int)) = ((p + (i + 1) : Nat) : Int) := by omega
        have hc2 := List.getElem?_eq_getElem h2'
        walk_at "w"
        rw [ea]
        refine w_ixS hz hc2 ?_
        walk_at "w"
        refine w_ndec (fun h3 => ?_) (fun h3 => ?_)
        · have e := brk fun c hc' => by
            rw [List.getElem?_drop, hc2] at hc'; cases hc'; exact h3
          walk_at "w"
          refine w_dec (fun h4 => ?_) (fun h4 => ?_)
          · omega
          · walk_at "w"
            have := hQ _ (Same.refl _)
            rw [tkv, if_pos (by omega), e] at this
            exact this
        · walk_at "w"
          refine ⟨rfl, some (.int (1 + (i : Int))), ?_, fun j hj => ?_⟩
          · rw [show (1 + (i : Int) + 1) = ((i + 1 : Nat) : Int) + 1 by omega]
          · by_cases z : j < i + 1
            · exact hW j z
            · have : j = i + 1 := by omega
              subst this
              exact ⟨_, by rw [List.getElem?_drop]; exact hc2, h3⟩
    · rintro σ H2 ⟨rfl, v, rfl, hW⟩
      have := wl_ge (l.drop p) 17 hW
      rw [tkv, if_neg (by omega)] at hQ
      walk_at "w"
      refine w_dec (fun h4 => ?_) (fun h4 => ?_)
      · walk_at "w"
        exact hQ _ (Same.refl _)
      · exact absurd (by decide) h4
  · walk_at "w"
    rw [show (p : Int) + 2 = ((p + 2 : Nat) : Int) by omega]
    refine w_cutS hz ?_
    rw [show p + 2 - p = 2 by omega, hd]
    rw [hd] at hQ
    walk_at "w"
    refine w_new (Nat.le_of_ble_eq_true rfl) (fun q hq => ?_)
    refine w_inLst (rs := longs) (SqL.of upd_same) rfl ?_
    walk_at "w"
    refine w_dec (fun h3 => ?_) (fun h3 => ?_)
    · walk_at "w"
      rw [tk_two h1 h3] at hQ
      exact hQ _ (same_new (Same.refl _) hq)
    · walk_at "w"
      refine w_ixS hz hc ?_
      walk_at "w"
      refine w_dec (fun h4 => ?_) (fun h4 => ?_)
      · walk_at "w"
        rw [tk_one h1 h3 h4] at hQ
        exact hQ _ (same_new (Same.refl _) hq)
      · walk_at "w"
        rw [tk_no h1 h3 h4] at hQ
        exact hQ _ (same_new (Same.refl _) hq)

end
end K12

namespace K12
open PySem PySem.Spec PyProof.Rows L2 SX
local macro_rules | `(tactic| walk_at "w1") => `(tactic| (first
  | with_reducible refine w_seq ?_ | with_reducible refine w_asgN ?_ | with_reducible refine w_c ?_
  | ((with_reducible refine' w_var ?wv ?_); (case wv => exact rfl))
  | with_reducible refine w_op ?_ | with_reducible refine w_un ?_ | with_reducible refine w_next ?_ | with_reducible refine w_brk ?_ | with_reducible refine w_cnt ?_
  | with_reducible refine w_ifS ?_ | with_reducible refine w_if ?_ | with_reducible refine w_test ?_ | with_reducible refine w_tB ?_ | with_reducible refine w_bl ?_ | with_reducible refine w_blI ?_
  | with_reducible refine w_and ?_ | with_reducible refine w_or ?_ | with_reducible refine w_not ?_ | with_reducible refine w_andV ?_ | with_reducible refine w_orV ?_ | with_reducible refine w_notV ?_
  | with_reducible refine w_nil ?_ | with_reducible refine w_cons ?_ | with_reducible refine w_cb ?_ | with_reducible refine w_call ?_ | with_reducible refine w_callS ?_ | with_reducible refine w_chain ?_
  | with_reducible refine w_tup ?_ | with_reducible refine w_lst ?_ | with_reducible refine w_sl ?_ | with_reducible refine w_noPart ?_ | with_reducible refine w_part ?_ | with_reducible refine w_partI ?_
  | with_reducible refine w_ret ?_ | with_reducible refine w_retN ?_ | with_reducible refine w_drop ?_ | with_reducible refine w_asg ?_ | with_reducible refine w_gSub ?_
  | ((with_reducible refine' w_aug ?wv ?_); (case wv => exact rfl)) | with_reducible refine w_ipI ?_
  | with_reducible refine w_addI ?_ | with_reducible refine w_subI ?_ | with_reducible refine w_ltI ?_ | with_reducible refine w_leI ?_ | with_reducible refine w_gtI ?_ | with_reducible refine w_geI ?_
  | with_reducible refine w_eqI ?_ | with_reducible refine w_neI ?_ | with_reducible refine w_eqT ?_ | with_reducible refine w_neT ?_ | with_reducible refine w_inS ?_ | with_reducible refine w_ninS ?_
  | with_reducible refine w_absI ?_ | with_reducible refine w_intI ?_ | with_reducible refine w_maxI ?_ | with_reducible refine w_minI ?_
  | with_reducible refine w_for ?_ | with_reducible refine w_iR1 ?_ | with_reducible refine w_iR2 ?_ | with_reducible refine w_iStr ?_ | with_reducible refine w_strI ?_ | with_reducible refine w_iList ?_ | with_reducible refine w_iTup ?_
  | with_reducible refine w_bm ?_ | with_reducible refine w_bm0 ?_ | with_reducible refine w_t ?_ | with_reducible refine w_f ?_ | with_reducible refine w_nt ?_ | with_reducible refine w_nx ?_ | with_reducible refine w_rt ?_ | with_reducible refine w_bk ?_ | with_reducible refine w_ct ?_ | with_reducible refine w_nf ?_))
local macro_rules | `(tactic| walk_at "w") => `(tactic| (repeat (first | walk_at "w1" | dsimp (config := { proj := false }) only [List.set_cons_zero, List.set_cons_succ])))
section
variable {w : World} {K : PySem.W.Frag} {mg : Str → Option Value} {base : Heap}

def Code (l : List Nat) (k n : Nat) : Prop := (k = 1 ∧ l.length ≤ 20000 ∧ (LX l 0).2 = some n) ∨ (k = 2 ∧ n = 20000 ∧ 20000 < l.length)
def Due (H : Hp) (p : Addr) (l : List Nat) : Prop :=
  (l.length ≤ 20000 ∧ (LX l 0).2 = none ∧ ∃ b ys, H p = some (.tup [.int 0, .ref b]) ∧ H b = some (.lst ys) ∧ Rows H ys (LX l 0).1) ∨
  (∃ k n : Nat, Code l k n ∧ H p = some (.tup [.int (k : Int), .int (n : Int)]))
def Act (H : Hp) (p : Addr) (l : List Nat) : Prop :=
  (l.length ≤ 20000 ∧ (LX l 0).2 = none ∧ ∃ b ys, H p = some (.tup [.int 0, .ref b]) ∧ H b = some (.tup ys) ∧ Rows H ys (LX l 0).1) ∨
  (∃ k n : Nat, Code l k n ∧ H p = some (.tup [.int (k : Int), .int (n : Int)]))
theorem Due.same {H H' : Hp} {p : Addr} {l : List Nat} (s : Same H H') (h : Due H p l) : Due H' p l := by
  rcases h with ⟨a, b, c, ys, d, e, f⟩ | ⟨k, n, c, e⟩
  · exact .inl ⟨a, b, c, ys, s _ _ d, s _ _ e, Rows.same s f⟩
  · exact .inr ⟨k, n, c, s _ _ e⟩
theorem code_one {l : List Nat} {k n k' n' : Nat} (h : Code l k n) (h' : Code l k' n') : k = k' ∧ n = n' := by
  rcases h with ⟨rfl, a, b⟩ | ⟨rfl, rfl, a⟩ <;> rcases h' with ⟨rfl, c, d⟩ | ⟨rfl, rfl, c⟩
  · rw [b] at d; cases d; exact ⟨rfl, rfl⟩
  · omega
  · omega
  · exact ⟨rfl, rfl⟩
theorem code_not {l : List Nat} {k n : Nat} (h : Code l k n) (h1 : l.length ≤ 20000) (h2 : (LX l 0).2 = none) : False := by
  rcases h with ⟨rfl, a, b⟩ | ⟨rfl, rfl, a⟩
  · rw [h2] at b; cases b
  · omega
theorem code_pos {l : List Nat} {k n : Nat} (h : Code l k n) : k ≠ 0 := by
  rcases h with ⟨rfl, a, b⟩ | ⟨rfl, rfl, a⟩ <;> decide
def sp_law_scan : Sp := sp1 fun x H Q _ => ∃ l : List Nat, x = .str (S l) ∧ l.length ≤ 20000 ∧ ∀ p H', Same H H' → Due H' p l → Q (.ref p) H'
theorem ok_law_scan (T : Txt K mg) {fd : FuncData} (F : Fn_law_scan K fd) (hm : mg "_law_scan" = some (.ref (He.ga K "_law_scan"))) (c_law_size : CalX P w K mg base CX0 1 "_law_size" sp_law_size) : CalX P w K mg base CX0 2 "_law_scan" sp_law_scan := by
  refine calx0 (k := 1) F hm sc_law_scan (b_law_scan F) (fun _ _ _ _ h => sp1_len h) (fun cdv A outer s H vs Q E hr h => ?_)
  obtain ⟨x0, rfl, h⟩ := h
  refine ⟨_, (pss_cons (ps_set (i := 1) sc_law_scan.nd rfl (Or.inl rfl) (pe_lst pa_nil))
    (pss_cons (ps_set (i := 2) sc_law_scan.nd rfl (Or.inl rfl) pe_int)
    (pss_cons (ps_for PassesOwn.never rfl (pi_range1 (by rfl) T.f_range (pa_cons (pe_callB call_lenT (by rfl) T.f_len PySem.boot_len (pa_cons (pv 0) pa_nil)) pa_nil)) (pg_name (i := 3) sc_law_scan.nd rfl (Or.inl rfl))
    (pss_cons (ps_if (PW.pt (pw_or (pt_cmpR op_ltI (pv 3) (pv 2) (nomark _)) (pw_or1 (pt_cmpR op_eq (pe_ix ix_str (pv 0) (pv 3) (fun _ _ => rfl)) pe_str (nomark _)))))
    (pss_one ps_continue)
    pss_nil)
    (pss_cons (ps_set (i := 4) sc_law_scan.nd rfl (Or.inl rfl) (pe_cx c_law_size hr (by decide) rfl pass0 (pa_cons (pv 0) (pa_cons (pv 3) pa_nil))))
    (pss_cons (ps_if (pt_cmpR op_eq (pv 4) pe_int (nomark _))
    (pss_one (ps_ret (pe_tup (pa_cons pe_int (pa_cons (pv 3) pa_nil)))))
    pss_nil)
    (pss_cons (ps_expr (pe_bm PySem.F.plainAttrs_list PySem.F.slot_list_append PySem.F.type_list_append mt_append (pv 1) (pa_cons (pe_tup (pa_cons (pe_slice sl_str (pv 0) (po_some (pv 3)) (po_some (pe_op op_addI (pv 3) (pv 4)))) (pa_cons (pv 3) pa_nil))) pa_nil)))
    (pss_one (ps_set (i := 2) sc_law_scan.nd rfl (Or.inl rfl) (pe_op op_addI (pv 3) (pv 4)))))))))
    (pss_one (ps_ret (pe_tup (pa_cons pe_int (pa_cons (pv 1) pa_nil)))))))), ?_⟩
  rw [show start ["text", "rows", "end", "spot", "size"] [x0] = [some x0, none, none, none, none] from rfl]
  obtain ⟨l, rfl, hl, hQ⟩ := h
  have hz : l.length ≤ sizeLine := szl hl
  have e1 : Str.ofString " " = S [32] := S_ofs (by decide +kernel)
  rw [e1]
  try dsimp only [cxOf]
  walk_at "w"
  refine w_new (Nat.le_of_ble_eq_true rfl) (fun pf hpf => ?_)
  walk_at "w"
  refine w_lenS hz ?_
  walk_at "w"
  refine w_rg1 (by omega) (by omega) ?_
  refine for_range (fun i σ H' => ∃ (q : Nat) (xs : List V) (rows : List (List Nat × Nat)) (v u : Option V), σ = [some (.str (S l)), some (.ref pf), some (.int (q : Int)), v, u] ∧ q ≤ l.length ∧ Same H H' ∧ H' pf = some (.lst xs) ∧ Rows H' xs rows ∧ xs.length ≤ i ∧
    LX l 0 = (rows ++ (LX (l.drop (max i q)) (max i q)).1, (LX (l.drop (max i q)) (max i q)).2)) ⟨0, [], [], _, _, rfl, Nat.zero_le _, same_new (Same.refl _) hpf, upd_same, .nil, Nat.le_refl _, rfl⟩ ?_ ?_
  · rintro i σ H' hi ⟨q, xs, rows, v, u, rfl, hq, sm, hf, hR, hxl, hL⟩
    have h2' : i < l.length := hi
    have hc : l[i]? = some l[i] := List.getElem?_eq_getElem h2'
    have hdr : l.drop i = l[i] :: l.drop (i + 1) := (List.drop_eq_getElem_cons h2')
    dsimp only [gName]
    walk_at "w"
    rw [show (0 : Int) + (i : Int) = (i : Int) by omega]
    refine w_dec (fun h2 => ?_) (fun h2 => ?_)
    · walk_at "w"
      refine ⟨q, xs, rows, _, _, rfl, hq, sm, hf, hR, by omega, ?_⟩
      rw [show max (i + 1) q = max i q by omega]; exact hL
    rw [show max i q = i by omega] at hL
    walk_at "w"
    refine w_ixS hz hc ?_
    walk_at "w"
    refine w_dec (fun h3 => ?_) (fun h3 => ?_)
    · have h3 : l[i] = 32 := by simpa using h3
      walk_at "w"
      refine ⟨q, xs, rows, _, _, rfl, hq, sm, hf, hR, by omega, ?_⟩
      rw [show max (i + 1) q = i + 1 by omega, hL, hdr, h3, LX_sp]
    · have h3 : l[i] ≠ 32 := fun z => h3 (by rw [z])
      walk_at "w"
      refine ⟨_, _, rfl, l, i, rfl, rfl, by omega, h2', fun H2 sm2 => ?_⟩
      have hf := sm2 _ _ hf
      have hR := Rows.same sm2 hR
      have sm : Same H H2 := fun b o e => sm2 b o (sm b o e)
      walk_at "w"
      refine w_dec (fun h4 => ?_) (fun h4 => ?_)
      · have h5 : tk (l.drop i) = 0 := by omega
        walk_at "w"
        refine w_new (Nat.le_of_ble_eq_true rfl) (fun t ht => ?_)
        refine hQ t _ (same_new sm ht) (.inr ⟨1, i, .inl ⟨rfl, hl, ?_⟩, upd_same⟩)
        rw [hL, hdr, LX_bad h3 (by rw [← hdr]; exact h5)]
      · have h5 : tk (l.drop i) ≠ 0 := by omega
        have h6 : tk (l.drop i) ≤ l.length - i := by
          have := tk_le (l.drop i); rw [List.length_drop] at this; exact this
        walk_at "w"
        refine w_lstTy hf ?_
        walk_at "w"
        rw [show (i : Int) + (tk (l.drop i) : Int) = ((i + tk (l.drop i) : Nat) : Int) by omega]
        refine w_cutS hz ?_
        rw [show i + tk (l.drop i) - i = tk (l.drop i) by omega]
        walk_at "w"
        refine w_new (Nat.le_of_ble_eq_true rfl) (fun t ht => ?_)
        walk_at "w"
        have hft : pf ≠ t := ne_of_none hf ht
        have hf' : upd H2 t (.tup [.str (S ((l.drop i).take (tk (l.drop i)))), .int (i : Int)]) pf = some (.lst xs) := by rw [upd_ne hft]; exact hf
        refine w_app hf' (Nat.lt_of_le_of_lt (Nat.le_trans hxl (Nat.le_of_lt h2')) (Nat.lt_of_le_of_lt hl (by decide))) ?_
        walk_at "w"
        have sm1 : Same H2 (upd H2 t (.tup [.str (S ((l.drop i).take (tk (l.drop i)))), .int (i : Int)])) := same_new (Same.refl _) ht
        have kb : KeepB pf (upd H2 t (.tup [.str (S ((l.drop i).take (tk (l.drop i)))), .int (i : Int)])) (upd (upd H2 t (.tup [.str (S ((l.drop i).take (tk (l.drop i)))), .int (i : Int)])) pf (.lst (xs ++ [.ref t]))) := fun b o hb e => by rw [upd_ne hb]; exact e
        refine ⟨i + tk (l.drop i), xs ++ [.ref t], rows ++ [((l.drop i).take (tk (l.drop i)), i)], _, _, rfl, by omega, ?_, upd_same, ?_, ?_, ?_⟩
        · intro b o e
          rw [upd_ne (ne_of_none e hpf)]
          exact sm1 b o (sm b o e)
        · refine Rows.snoc ⟨t, rfl, ?_⟩ (Rows.keep kb hf' (Rows.same sm1 hR))
          rw [upd_ne (Ne.symm hft)]; exact upd_same
        · rw [List.length_append]; simp; omega
        · rw [show max (i + 1) (i + tk (l.drop i)) = i + tk (l.drop i) by omega, hL, hdr, LX_tok h3 (by rw [← hdr]; exact h5), ← hdr, List.drop_drop]
          simp
  · rintro σ H' ⟨q, xs, rows, v, u, rfl, hq, sm, hf, hR, hxl, hL⟩
    rw [show max ((l.length : Int)).toNat q = l.length by omega, drop_nil_of (Nat.le_refl _), LX_nil] at hL
    walk_at "w"
    refine w_new (Nat.le_of_ble_eq_true rfl) (fun t ht => ?_)
    refine hQ t _ (same_new sm ht) (.inl ⟨hl, by rw [hL], pf, xs, upd_same, ?_, ?_⟩)
    · rw [upd_ne (ne_of_none hf ht)]; exact hf
    · rw [hL]
      simp only [List.append_nil]
      exact Rows.same (same_new (Same.refl _) ht) hR

def sp_law_is_integer : Sp := sp1 fun x H Q _ => ∃ i : Int, x = .int i ∧ Q (.bl true) H
theorem ok_law_is_integer (T : Txt K mg) {fd : FuncData} (F : Fn_law_is_integer K fd) (hm : mg "_law_is_integer" = some (.ref (He.ga K "_law_is_integer")))  : CalX P w K mg base CX0 1 "_law_is_integer" sp_law_is_integer := by
  refine calx0 (k := 0) F hm sc_law_is_integer (b_law_is_integer F) (fun _ _ _ _ h => sp1_len h) (fun cdv A outer s H vs Q E hr h => ?_)
  obtain ⟨x0, rfl, h⟩ := h
  refine ⟨_, (pss_one (ps_ret (pe_and (pe_callB call_isi (by rfl) T.f_isinstance (by decide +kernel) (pa_cons (pv 0) (pa_cons (pe_bltn (v := .ty "int") (by rfl) T.f_int (by decide +kernel) rfl) pa_nil))) (pe_one (pe_not (pe_callB call_isi (by rfl) T.f_isinstance (by decide +kernel) (pa_cons (pv 0) (pa_cons (pe_bltn (v := .ty "bool") (by rfl) T.f_bool (by decide +kernel) rfl) pa_nil)))))))), ?_⟩
  rw [show start ["actual"] [x0] = [some x0] from rfl]
  obtain ⟨i, rfl, hQ⟩ := h
  try dsimp only [cxOf]
  walk_at "w"
  refine w_isi (.base (.int _)) kit_ii ?_
  walk_at "w"
  refine w_isi (.base (.int _)) kit_ib ?_
  walk_at "w"
  exact hQ

theorem Rows.at {H : Hp} : ∀ {xs : List V} {rows : List (List Nat × Nat)}, Rows H xs rows → ∀ i, i < xs.length → ∃ r v, rows[i]? = some r ∧ xs[i]? = some v ∧ RowV H v r
  | _, _, .nil, i, h => absurd h (Nat.not_lt_zero _)
  | _, _, .cons a t, 0, _ => ⟨_, _, rfl, rfl, a⟩
  | _, _, .cons a t, i + 1, h => Rows.at t i (Nat.lt_of_succ_lt_succ h)
def sp_law_agrees : Sp := sp2 fun x y H Q _ => ∃ (a d : Addr) (l : List Nat), x = .ref a ∧ y = .ref d ∧ Act H a l ∧ Due H d l ∧ Q (.bl true) H
theorem rows_small {k : Nat} : ∀ (n : Nat) (l : List Nat) (p : Nat), (lex n l p).1.length ≤ n
  | 0, _, _ => Nat.le_refl _
  | n + 1, [], _ => Nat.zero_le _
  | n + 1, c :: r, p => by
    unfold lex
    split
    · exact Nat.le_succ_of_le (rows_small (k := k) n r (p + 1))
    · split
      · exact Nat.zero_le _
      · exact Nat.succ_le_succ (rows_small (k := k) n _ _)
theorem ok_law_agrees (T : Txt K mg) {fd : FuncData} (F : Fn_law_agrees K fd) (hm : mg "_law_agrees" = some (.ref (He.ga K "_law_agrees"))) (c_law_is_integer : CalX P w K mg base CX0 1 "_law_is_integer" sp_law_is_integer) : CalX P w K mg base CX0 2 "_law_agrees" sp_law_agrees := by
  refine calx0 (k := 1) F hm sc_law_agrees (b_law_agrees F) (fun _ _ _ _ h => sp2_len h) (fun cdv A outer s H vs Q E hr h => ?_)
  obtain ⟨x0, x1, rfl, h⟩ := h
  refine ⟨_, (pss_cons (ps_if (pt_cmpR op_ne (pe_ix ix_tup (pv 0) pe_int (fun _ _ => rfl)) (pe_ix ix_tup (pv 1) pe_int (fun _ _ => rfl)) (nomark _))
    (pss_one (ps_ret pe_bl))
    pss_nil)
    (pss_cons (ps_set (i := 2) sc_law_agrees.nd rfl (Or.inl rfl) (pe_ix ix_tup (pv 0) pe_int (fun _ _ => rfl)))
    (pss_cons (ps_if (pt_cmpR op_ne (pe_ix ix_tup (pv 1) pe_int (fun _ _ => rfl)) pe_int (nomark _))
    (pss_one (ps_ret (pe_and (pe_cx c_law_is_integer hr (by decide) rfl pass0 (pa_cons (pv 2) pa_nil)) (pe_one (pe_cmpR op_eq (pv 2) (pe_ix ix_tup (pv 1) pe_int (fun _ _ => rfl)) (nomark _))))))
    pss_nil)
    (pss_cons (ps_if (PW.pt (pw_or (pt_not (pt_val (pe_callB call_isi (by rfl) T.f_isinstance (by decide +kernel) (pa_cons (pv 2) (pa_cons (pe_bltn (v := .ty "tuple") (by rfl) T.f_tuple (by decide +kernel) rfl) pa_nil))))) (pw_or1 (pt_cmpR op_ne (pe_callB call_lenQ (by rfl) T.f_len PySem.boot_len (pa_cons (pv 2) pa_nil)) (pe_callB call_lenQ (by rfl) T.f_len PySem.boot_len (pa_cons (pe_ix ix_tup (pv 1) pe_int (fun _ _ => rfl)) pa_nil)) (nomark _)))))
    (pss_one (ps_ret pe_bl))
    pss_nil)
    (pss_cons (ps_for PassesOwn.never rfl (pi_range1 (by rfl) T.f_range (pa_cons (pe_callB call_lenQ (by rfl) T.f_len PySem.boot_len (pa_cons (pv 2) pa_nil)) pa_nil)) (pg_name (i := 3) sc_law_agrees.nd rfl (Or.inl rfl))
    (pss_cons (ps_set (i := 4) sc_law_agrees.nd rfl (Or.inl rfl) (pe_ix ix_tup (pv 2) (pv 3) (fun _ _ => rfl)))
    (pss_cons (ps_if (PW.pt (pw_or (pt_not (pt_val (pe_callB call_isi (by rfl) T.f_isinstance (by decide +kernel) (pa_cons (pv 4) (pa_cons (pe_bltn (v := .ty "tuple") (by rfl) T.f_tuple (by decide +kernel) rfl) pa_nil))))) (pw_or1 (pt_cmpR op_ne (pe_callB call_lenQ (by rfl) T.f_len PySem.boot_len (pa_cons (pv 4) pa_nil)) pe_int (nomark _)))))
    (pss_one (ps_ret pe_bl))
    pss_nil)
    (pss_cons (ps_if (PW.pt (pw_or (pt_not (pt_val (pe_callB call_isi (by rfl) T.f_isinstance (by decide +kernel) (pa_cons (pe_ix ix_tup (pv 4) pe_int (fun _ _ => rfl)) (pa_cons (pe_bltn (v := .ty "str") (by rfl) T.f_str (by decide +kernel) rfl) pa_nil))))) (pw_or1 (pt_not (pt_val (pe_cx c_law_is_integer hr (by decide) rfl pass0 (pa_cons (pe_ix ix_tup (pv 4) pe_int (fun _ _ => rfl)) pa_nil)))))))
    (pss_one (ps_ret pe_bl))
    pss_nil)
    (pss_one (ps_if (PW.pt (pw_or (pt_cmpR op_ne (pe_ix ix_tup (pv 4) pe_int (fun _ _ => rfl)) (pe_ix ix_tup (pe_ix ix_list (pe_ix ix_tup (pv 1) pe_int (fun _ _ => rfl)) (pv 3) (fun _ _ => rfl)) pe_int (fun _ _ => rfl)) (nomark _)) (pw_or1 (pt_cmpR op_ne (pe_ix ix_tup (pv 4) pe_int (fun _ _ => rfl)) (pe_ix ix_tup (pe_ix ix_list (pe_ix ix_tup (pv 1) pe_int (fun _ _ => rfl)) (pv 3) (fun _ _ => rfl)) pe_int (fun _ _ => rfl)) (nomark _)))))
    (pss_one (ps_ret pe_bl))
    pss_nil))))))
    (pss_one (ps_ret pe_bl))))))), ?_⟩
  rw [show start ["actual", "due", "told", "k", "row"] [x0, x1] = [some x0, some x1, none, none, none] from rfl]
  obtain ⟨a, d, l, rfl, rfl, hA, hD, hQ⟩ := h
  try dsimp only [cxOf]
  rcases hA with ⟨hl, hn, b, xs, ha, hb, hR⟩ | ⟨k, n, hc, ha⟩
  · rcases hD with ⟨_, _, b', ys, hd, hb', hR'⟩ | ⟨k', n', hc', hd⟩
    rotate_left
    · exact absurd hn fun hn => code_not hc' hl hn
    walk_at "w"
    refine w_ixU (n := 0) (SqT.of ha) rfl ?_
    walk_at "w"
    refine w_ixU (n := 0) (SqT.of hd) rfl ?_
    walk_at "w"
    refine w_ndec (fun h1 => absurd rfl h1) (fun _ => ?_)
    walk_at "w"
    refine w_ixU (n := 1) (SqT.of ha) rfl ?_
    walk_at "w"
    refine w_ixU (n := 0) (SqT.of hd) rfl ?_
    walk_at "w"
    refine w_ndec (fun h1 => absurd rfl h1) (fun _ => ?_)
    walk_at "w"
    refine w_isi (.base (.tup hb)) kit_tt ?_
    walk_at "w"
    refine w_lenU (SqT.of hb) ?_
    walk_at "w"
    refine w_ixU (n := 1) (SqT.of hd) rfl ?_
    walk_at "w"
    refine w_lenL (SqL.of hb') ?_
    walk_at "w"
    refine w_ndec (fun h1 => absurd (by rw [hR.len, hR'.len]) h1) (fun _ => ?_)
    walk_at "w"
    refine w_lenU (SqT.of hb) ?_
    walk_at "w"
    have hxl : xs.length ≤ 20000 := by rw [hR.len]; exact Nat.le_trans (rows_small (k := 0) _ _ _) hl
    refine w_rg1 (by omega) (by omega) ?_
    refine for_range (fun i σ H' => H' = H ∧ ∃ u v, σ = [some (.ref a), some (.ref d), some (.ref b), u, v]) ⟨rfl, _, _, rfl⟩ ?_ ?_
    · rintro i σ H' hi ⟨rfl, u, v, rfl⟩
      have hi : i < xs.length := hi
      obtain ⟨r, v1, e1, e2, c1, rfl, e3⟩ := Rows.at hR i hi
      obtain ⟨r', v2, e4, e5, c2, rfl, e6⟩ := Rows.at hR' i (by rw [hR'.len, ← hR.len]; exact hi)
      rw [e1] at e4; cases e4
      dsimp only [gName]
      walk_at "w"
      rw [show (0 : Int) + (i : Int) = (i : Int) by omega]
      refine w_ixU (SqT.of hb) e2 ?_
      walk_at "w"
      refine w_isi (.base (.tup e3)) kit_tt ?_
      walk_at "w"
      refine w_lenU (SqT.of e3) ?_
      walk_at "w"
      refine w_ndec (fun h1 => absurd rfl h1) (fun _ => ?_)
      walk_at "w"
      refine w_ixU (n := 0) (SqT.of e3) rfl ?_
      walk_at "w"
      refine w_isi (.base (.str _)) kit_ss ?_
      walk_at "w"
      refine w_ixU (n := 1) (SqT.of e3) rfl ?_
      walk_at "w"
      refine ⟨_, rfl, _, rfl, ?_⟩
      walk_at "w"
      refine w_ixU (n := 0) (SqT.of e3) rfl ?_
      walk_at "w"
      refine w_ixU (n := 1) (SqT.of hd) rfl ?_
      walk_at "w"
      refine w_ixL (SqL.of hb') e5 ?_
      walk_at "w"
      refine w_ixU (n := 0) (SqT.of e6) rfl ?_
      walk_at "w"
      refine w_ndec (fun h1 => absurd rfl h1) (fun _ => ?_)
      walk_at "w"
      refine w_ixU (n := 1) (SqT.of e3) rfl ?_
      walk_at "w"
      refine w_ixU (n := 1) (SqT.of hd) rfl ?_
      walk_at "w"
      refine w_ixL (SqL.of hb') e5 ?_
      walk_at "w"
      refine w_ixU (n := 1) (SqT.of e6) rfl ?_
      walk_at "w"
      refine w_ndec (fun h1 => absurd rfl h1) (fun _ => ?_)
      walk_at "w"
      exact ⟨rfl, _, _, rfl⟩
    · rintro σ H' ⟨rfl, u, v, rfl⟩
      walk_at "w"
      exact hQ
  · rcases hD with ⟨hl, hn, b', ys, hd, hb', hR'⟩ | ⟨k', n', hc', hd⟩
    · exact absurd hn fun hn => code_not hc hl hn
    obtain ⟨rfl, rfl⟩ := code_one hc hc'
    walk_at "w"
    refine w_ixU (n := 0) (SqT.of ha) rfl ?_
    walk_at "w"
    refine w_ixU (n := 0) (SqT.of hd) rfl ?_
    walk_at "w"
    refine w_ndec (fun h1 => absurd rfl h1) (fun _ => ?_)
    walk_at "w"
    refine w_ixU (n := 1) (SqT.of ha) rfl ?_
    walk_at "w"
    refine w_ixU (n := 0) (SqT.of hd) rfl ?_
    walk_at "w"
    refine w_ndec (fun _ => ?_) (fun h1 => absurd h1 fun z => code_pos hc (by omega))
    walk_at "w"
    refine ⟨_, rfl, _, rfl, ?_⟩
    walk_at "w"
    refine w_ixU (n := 1) (SqT.of hd) rfl ?_
    walk_at "w"
    rw [decide_eq_true rfl]
    exact hQ

end
end K12

namespace K12
open PySem PySem.Spec PyProof.Rows L2 SX
local macro_rules | `(tactic| walk_at "w1") => `(tactic| (first
  | with_reducible refine w_seq ?_ | with_reducible refine w_asgN ?_ | with_reducible refine w_c ?_
  | ((with_reducible refine' w_var ?wv ?_); (case wv => exact rfl))
  | with_reducible refine w_op ?_ | with_reducible refine w_un ?_ | with_reducible refine w_next ?_ | with_reducible refine w_brk ?_ | with_reducible refine w_cnt ?_
  | with_reducible refine w_ifS ?_ | with_reducible refine w_if ?_ | with_reducible refine w_test ?_ | with_reducible refine w_tB ?_ | with_reducible refine w_bl ?_ | with_reducible refine w_blI ?_
  | with_reducible refine w_and ?_ | with_reducible refine w_or ?_ | with_reducible refine w_not ?_ | with_reducible refine w_andV ?_ | with_reducible refine w_orV ?_ | with_reducible refine w_notV ?_
  | with_reducible refine w_nil ?_ | with_reducible refine w_cons ?_ | with_reducible refine w_cb ?_ | with_reducible refine w_call ?_ | with_reducible refine w_callS ?_ | with_reducible refine w_chain ?_
  | with_reducible refine w_tup ?_ | with_reducible refine w_lst ?_ | with_reducible refine w_sl ?_ | with_reducible refine w_noPart ?_ | with_reducible refine w_part ?_ | with_reducible refine w_partI ?_
  | with_reducible refine w_ret ?_ | with_reducible refine w_retN ?_ | with_reducible refine w_drop ?_ | with_reducible refine w_asg ?_ | with_reducible refine w_gSub ?_
  | ((with_reducible refine' w_aug ?wv ?_); (case wv => exact rfl)) | with_reducible refine w_ipI ?_
  | with_reducible refine w_addI ?_ | with_reducible refine w_subI ?_ | with_reducible refine w_ltI ?_ | with_reducible refine w_leI ?_ | with_reducible refine w_gtI ?_ | with_reducible refine w_geI ?_
  | with_reducible refine w_eqI ?_ | with_reducible refine w_neI ?_ | with_reducible refine w_eqT ?_ | with_reducible refine w_neT ?_ | with_reducible refine w_inS ?_ | with_reducible refine w_ninS ?_
  | with_reducible refine w_absI ?_ | with_reducible refine w_intI ?_ | with_reducible refine w_maxI ?_ | with_reducible refine w_minI ?_
  | with_reducible refine w_for ?_ | with_reducible refine w_iR1 ?_ | with_reducible refine w_iR2 ?_ | with_reducible refine w_iStr ?_ | with_reducible refine w_strI ?_ | with_reducible refine w_iList ?_ | with_reducible refine w_iTup ?_
  | with_reducible refine w_bm ?_ | with_reducible refine w_bm0 ?_ | with_reducible refine w_t ?_ | with_reducible refine w_f ?_ | with_reducible refine w_nt ?_ | with_reducible refine w_nx ?_ | with_reducible refine w_rt ?_ | with_reducible refine w_bk ?_ | with_reducible refine w_ct ?_ | with_reducible refine w_nf ?_))
local macro_rules | `(tactic| walk_at "w") => `(tactic| (repeat (first | walk_at "w1" | dsimp (config := { proj := false }) only [List.set_cons_zero, List.set_cons_succ])))
section
variable {w : World} {K : PySem.W.Frag} {mg : Str → Option Value} {base : Heap}

def sp_law_asked : Sp := sp1 fun x H Q _ => ∃ l : List Nat, x = .str (S l) ∧ l.length ≤ 100000 ∧ ∀ p H', Same H H' → Act H' p l → Q (.ref p) H'
theorem ok_law_asked (T : Txt K mg) {fd : FuncData} (F : Fn_law_asked K fd) (hm : mg "_law_asked" = some (.ref (He.ga K "_law_asked"))) (c_tokens : CalX P w K mg base (L2.CX P w) 3 "tokens" (sp_tokens K)) : CalX P w K mg base CX0 4 "_law_asked" sp_law_asked := by
  refine calx0 (k := 3) F hm sc_law_asked (b_law_asked F) (fun _ _ _ _ h => sp1_len h) (fun cdv A outer s H vs Q E hr h => ?_)
  obtain ⟨x0, rfl, h⟩ := h
  refine ⟨_, (pss_one (ps_try_manyA rfl rfl takes0 (fun W pn xe tk _ => (pss_one (ps_ret (pe_tup (pa_cons pe_int (pa_cons (pe_cxS c_tokens hr (by decide) rfl (fun σ => passAt tk σ) (by exact (pa_cons (pv 0) pa_nil))) pa_nil))))))
    (HdsA.as_ (i := 1) sc_law_asked.nd rfl rfl ⟨rfl, by decide, .inl T.g_InvalidText⟩ (fun a oe cls d pn hz hf => (pss_cons (ps_if (PW.pt (pw_or (pt_val (pe_callB (call_isEd hz hf) (by rfl) T.f_isinstance (by decide +kernel) (pa_cons (pv 1) (pa_cons (pe_gv T.v_TooLarge) pa_nil)))) (pw_or (pt_not (pt_val (pe_callB (call_isEd hz hf) (by rfl) T.f_isinstance (by decide +kernel) (pa_cons (pv 1) (pa_cons (pe_gv T.v_HallError) pa_nil))))) (pw_or1 (pt_not (pt_val (pe_callB (call_isEd hz hf) (by rfl) T.f_isinstance (by decide +kernel) (pa_cons (pv 1) (pa_cons (pe_bltn (v := .ty "ValueError") (by rfl) T.f_ValueError (by decide +kernel) rfl) pa_nil)))))))))
    (pss_one (ps_ret (pe_tup (pa_cons pe_int (pa_cons pe_int pa_nil)))))
    pss_nil)
    (pss_one (ps_ret (pe_tup (pa_cons pe_int (pa_cons (pe_xf ⟨T.e_InvalidText.hg, T.e_InvalidText.hk, T.e_InvalidText.hs, T.e_InvalidText.hd⟩ T.n_InvalidText hz hf (pv 1)) pa_nil))))))) (HdsA.as_ (i := 1) sc_law_asked.nd rfl rfl ⟨rfl, by decide, .inl T.g_TooLarge⟩ (fun a oe cls d pn hz hf => (pss_one (ps_ret (pe_tup (pa_cons pe_int (pa_cons (pe_xf ⟨T.e_TooLarge.hg, T.e_TooLarge.hk, T.e_TooLarge.hs, T.e_TooLarge.hd⟩ T.n_TooLarge hz hf (pv 1)) pa_nil)))))) HdsA.nil)))), ?_⟩
  rw [show start ["text", "e"] [x0] = [some x0, none] from rfl]
  obtain ⟨l, rfl, hl, hQ⟩ := h
  try dsimp only [cxOf]
  walk_at "w"
  refine ⟨_, rfl, l, rfl, hl, fun h1 H1 d sm hd => ?_, fun h1 e he H1 d sm hd => ?_, fun h1 hn H1 p xs sm hp hR => ?_⟩
  · refine ⟨_, T.x_TooLarge_InvalidText, (fun z => absurd z (by decide)), fun _ => ?_⟩
    refine ⟨_, T.x_TooLarge_TooLarge, (fun _ a0 ha0 => ?_), fun z => absurd z (by decide)⟩
    walk_at "w"
    refine ⟨_, rfl, rfl, rfl, d, _, _, rfl, hd, rfl, ?_⟩
    walk_at "w"
    refine w_new (Nat.le_of_ble_eq_true rfl) (fun t ht => ?_)
    exact hQ t _ (same_new sm ht) (.inr ⟨2, 20000, .inr ⟨rfl, rfl, h1⟩, upd_same⟩)
  · refine ⟨_, T.x_InvalidText_InvalidText, (fun _ a0 ha0 => ?_), fun z => absurd z (by decide)⟩
    walk_at "w"
    refine ⟨_, _, _, _, d, _, rfl, rfl, T.e_InvalidText, rfl, hd, fun u z => z, T.k_InvalidText_TooLarge, ?_⟩
    walk_at "w"
    refine ⟨_, _, _, _, d, _, rfl, rfl, T.e_InvalidText, rfl, hd, fun u z => z, T.k_InvalidText_HallError, ?_⟩
    walk_at "w"
    refine ⟨_, _, _, _, d, _, rfl, rfl, T.e_InvalidText, rfl, hd, fun u z => z, T.k_InvalidText_ValueError, ?_⟩
    walk_at "w"
    refine ⟨_, rfl, rfl, rfl, d, _, _, rfl, hd, rfl, ?_⟩
    walk_at "w"
    refine w_new (Nat.le_of_ble_eq_true rfl) (fun t ht => ?_)
    exact hQ t _ (same_new sm ht) (.inr ⟨1, e, .inl ⟨rfl, h1, he⟩, upd_same⟩)
  · walk_at "w"
    refine w_new (Nat.le_of_ble_eq_true rfl) (fun t ht => ?_)
    exact hQ t _ (same_new sm ht) (.inl ⟨h1, hn, p, xs, upd_same, by rw [upd_ne (ne_of_none hp ht)]; exact hp, Rows.same (same_new (Same.refl _) ht) hR⟩)

end
end K12

namespace K12
open PySem PySem.Spec PyProof.Rows L2 SX
local macro_rules | `(tactic| walk_at "w1") => `(tactic| (first
  | with_reducible refine w_seq ?_ | with_reducible refine w_asgN ?_ | with_reducible refine w_c ?_
  | ((with_reducible refine' w_var ?wv ?_); (case wv => exact rfl))
  | with_reducible refine w_op ?_ | with_reducible refine w_un ?_ | with_reducible refine w_next ?_ | with_reducible refine w_brk ?_ | with_reducible refine w_cnt ?_
  | with_reducible refine w_ifS ?_ | with_reducible refine w_if ?_ | with_reducible refine w_test ?_ | with_reducible refine w_tB ?_ | with_reducible refine w_bl ?_ | with_reducible refine w_blI ?_
  | with_reducible refine w_and ?_ | with_reducible refine w_or ?_ | with_reducible refine w_not ?_ | with_reducible refine w_andV ?_ | with_reducible refine w_orV ?_ | with_reducible refine w_notV ?_
  | with_reducible refine w_nil ?_ | with_reducible refine w_cons ?_ | with_reducible refine w_cb ?_ | with_reducible refine w_call ?_ | with_reducible refine w_callS ?_ | with_reducible refine w_chain ?_
  | with_reducible refine w_tup ?_ | with_reducible refine w_lst ?_ | with_reducible refine w_sl ?_ | with_reducible refine w_noPart ?_ | with_reducible refine w_part ?_ | with_reducible refine w_partI ?_
  | with_reducible refine w_ret ?_ | with_reducible refine w_retN ?_ | with_reducible refine w_drop ?_ | with_reducible refine w_asg ?_ | with_reducible refine w_gSub ?_
  | ((with_reducible refine' w_aug ?wv ?_); (case wv => exact rfl)) | with_reducible refine w_ipI ?_
  | with_reducible refine w_addI ?_ | with_reducible refine w_subI ?_ | with_reducible refine w_ltI ?_ | with_reducible refine w_leI ?_ | with_reducible refine w_gtI ?_ | with_reducible refine w_geI ?_
  | with_reducible refine w_eqI ?_ | with_reducible refine w_neI ?_ | with_reducible refine w_eqT ?_ | with_reducible refine w_neT ?_ | with_reducible refine w_inS ?_ | with_reducible refine w_ninS ?_
  | with_reducible refine w_absI ?_ | with_reducible refine w_intI ?_ | with_reducible refine w_maxI ?_ | with_reducible refine w_minI ?_
  | with_reducible refine w_for ?_ | with_reducible refine w_iR1 ?_ | with_reducible refine w_iR2 ?_ | with_reducible refine w_iStr ?_ | with_reducible refine w_strI ?_ | with_reducible refine w_iList ?_ | with_reducible refine w_iTup ?_
  | with_reducible refine w_bm ?_ | with_reducible refine w_bm0 ?_ | with_reducible refine w_t ?_ | with_reducible refine w_f ?_ | with_reducible refine w_nt ?_ | with_reducible refine w_nx ?_ | with_reducible refine w_rt ?_ | with_reducible refine w_bk ?_ | with_reducible refine w_ct ?_ | with_reducible refine w_nf ?_))
local macro_rules | `(tactic| walk_at "w") => `(tactic| (repeat (first | walk_at "w1" | dsimp (config := { proj := false }) only [List.set_cons_zero, List.set_cons_succ])))
section
variable {w : World} {K : PySem.W.Frag} {mg : Str → Option Value} {base : Heap}

/-! ### joined: the plain law -/
theorem LX_sps (n : Nat) (r : List Nat) (p : Nat) : LX (List.replicate n 32 ++ r) p = LX r (p + n) := by
  induction n generalizing p with
  | zero => rfl
  | succ n ih =>
    rw [List.replicate_succ, List.cons_append, LX_sp, ih]
    congr 1; omega
def Safe (w rest : List Nat) : Prop := ∀ c, rest[0]? = some c → ((∃ x, w[0]? = some x ∧ x ∈ LET) → c ∉ WS) ∧ (w = [124] → c ≠ 45) ∧ (w = [61] → c ≠ 62)
theorem safe_nil (w : List Nat) : Safe w [] := fun c h => by cases h
theorem safe_none (r : List Nat) : Safe [] r := fun c h => ⟨(fun ⟨x, z, _⟩ => absurd z (by simp)), (fun z => absurd z (by simp)), (fun z => absurd z (by simp))⟩
theorem safe_sp (w r : List Nat) : Safe w (32 :: r) := fun c h => by
  cases h
  exact ⟨fun _ => by decide, fun _ => by decide, fun _ => by decide⟩
theorem safe_rep (w : List Nat) (n : Nat) (r : List Nat) (h : 0 < n) : Safe w (List.replicate n 32 ++ r) := by
  obtain ⟨m, rfl⟩ : ∃ m, n = m + 1 := ⟨n - 1, by omega⟩
  rw [List.replicate_succ, List.cons_append]; exact safe_sp w _
theorem sign_tk : ∀ w ∈ SIGNS, ∀ rest : List Nat, Safe w rest → tk (w ++ rest) = w.length := by
  intro w hw rest hs
  unfold SIGNS at hw
  simp only [List.mem_cons, List.not_mem_nil, or_false] at hw
  have one : ∀ c : Nat, c ∉ LET → c ∈ shorts → c ≠ 61 → c ≠ 45 → c ≠ 124 → tk ([c] ++ rest) = 1 := fun c h1 h2 h3 h4 h5 => by
    refine tk_one h1 ?_ h2
    unfold longs
    cases rest <;> simp <;> omega
  have two : ∀ c d : Nat, c ∉ LET → [c, d] ∈ longs → tk ([c, d] ++ rest) = 2 := fun c d h1 h2 => tk_two h1 (by cases rest <;> exact h2)
  rcases hw with rfl | rfl | rfl | rfl | rfl | rfl | rfl | rfl | rfl | rfl | rfl | rfl | rfl
  · exact one 40 (by decide) (by decide) (by decide) (by decide) (by decide)
  · exact one 41 (by decide) (by decide) (by decide) (by decide) (by decide)
  · exact one 58 (by decide) (by decide) (by decide) (by decide) (by decide)
  · exact one 46 (by decide) (by decide) (by decide) (by decide) (by decide)
  · exact one 44 (by decide) (by decide) (by decide) (by decide) (by decide)
  · exact one 39 (by decide) (by decide) (by decide) (by decide) (by decide)
  · refine tk_one (r := rest) (by decide) ?_ (by decide)
    cases rest with
    | nil => decide
    | cons d r =>
      have z := (hs d rfl).2.2 rfl
      unfold longs
      simp only [List.take_succ_cons, List.take_zero, List.mem_cons, List.not_mem_nil, or_false, List.cons.injEq]
      omega
  · exact two 61 62 (by decide) (by decide)
  · exact one 38 (by decide) (by decide) (by decide) (by decide) (by decide)
  · refine tk_one (r := rest) (by decide) ?_ (by decide)
    cases rest with
    | nil => decide
    | cons d r =>
      have z := (hs d rfl).2.1 rfl
      unfold longs
      simp only [List.take_succ_cons, List.take_zero, List.mem_cons, List.not_mem_nil, or_false, List.cons.injEq]
      omega
  · exact one 126 (by decide) (by decide) (by decide) (by decide) (by decide)
  · exact two 45 62 (by decide) (by decide)
  · exact two 124 45 (by decide) (by decide)
theorem name_all {n : Nat} {w : List Nat} (h : Name n w) (rest : List Nat) : ∀ j, j < n → ∃ c, (w ++ rest)[j]? = some c ∧ c ∈ WS := fun j hj => by
  have hj' : j < w.length := by rw [h.1]; exact hj
  exact ⟨w[j], by rw [List.getElem?_append_left hj', List.getElem?_eq_getElem hj'], h.2.2 _ (List.getElem_mem hj')⟩
theorem name_hd {n : Nat} {w : List Nat} (h : Name n w) : ∃ c r, w = c :: r ∧ c ∈ LET := by
  obtain ⟨c, hc, hl⟩ := h.2.1
  cases w with
  | nil => cases hc
  | cons d r => cases hc; exact ⟨_, _, rfl, hl⟩
theorem tok_tk {w : List Nat} (h : Tok w) {rest : List Nat} (hs : Safe w rest) : tk (w ++ rest) = w.length := by
  rcases h with ⟨n, h1, h2, hn⟩ | h
  · obtain ⟨c, r, rfl, hc⟩ := name_hd hn
    have hw : wlen (c :: r ++ rest) = n := wl_eq _ n (name_all hn rest) fun d hd => by
      rw [List.getElem?_append_right (by rw [hn.1]; exact Nat.le_refl _), hn.1, Nat.sub_self] at hd
      exact (hs d hd).1 ⟨c, rfl, hc⟩
    rw [List.cons_append, tk_let hc, ← List.cons_append, hw, if_pos h2, hn.1]
  · exact sign_tk w h rest hs
theorem let_no {c : Nat} (h : c ∈ LET) : c ≠ 32 ∧ c ≠ 45 ∧ c ≠ 62 := by
  refine ⟨fun z => ?_, fun z => ?_, fun z => ?_⟩ <;> subst z <;> exact absurd h (by decide)
theorem tok_hd {w : List Nat} (h : Tok w) : ∃ c r, w = c :: r ∧ c ≠ 32 := by
  rcases h with ⟨n, h1, h2, hn⟩ | h
  · obtain ⟨c, r, e, hc⟩ := name_hd hn
    exact ⟨c, r, e, (let_no hc).1⟩
  · have : ∀ w ∈ SIGNS, w[0]?.any (fun c => decide (c ≠ 32)) = true := by decide
    have := this w h
    cases w with
    | nil => cases this
    | cons c r => exact ⟨c, r, rfl, by simpa using this⟩
theorem tok_LX {w : List Nat} (h : Tok w) {rest : List Nat} (hs : Safe w rest) (p : Nat) : LX (w ++ rest) p = ((w, p) :: (LX rest (p + w.length)).1, (LX rest (p + w.length)).2) := by
  obtain ⟨c, r, rfl, hc⟩ := tok_hd h
  have e := tok_tk h hs
  rw [List.cons_append] at e ⊢
  rw [LX_tok hc (by rw [e]; exact Nat.succ_ne_zero _), e, ← List.cons_append, List.take_left, List.drop_left]
theorem bad_LX {w : List Nat} (h : Bad w) {rest : List Nat} (hs : rest = [] ∨ rest[0]? = some 32) (p : Nat) : LX (w ++ rest) p = ([], some p) := by
  rcases h with ⟨n, h1, h2, hn⟩ | ⟨c, hc, rfl⟩
  · obtain ⟨c, r, rfl, hc⟩ := name_hd hn
    have hw : 17 ≤ wlen (c :: r ++ rest) := Nat.le_trans h1 (wl_ge _ n (name_all hn rest))
    rw [List.cons_append] at hw ⊢
    exact LX_bad (let_no hc).1 (by rw [tk_let hc, if_neg (by omega)])
  · have z : ∀ c ∈ ODD, c ∉ LET ∧ c ∉ shorts ∧ c ≠ 32 ∧ c ≠ 61 ∧ c ≠ 124 := by decide
    obtain ⟨z1, z2, z3, z4, z5⟩ := z c hc
    refine LX_bad z3 (tk_no z1 ?_ z2)
    unfold longs
    rcases hs with rfl | hs
    · simp
    · cases rest with
      | nil => simp
      | cons d r =>
        cases hs
        simp
theorem tok_safe {last w : List Nat} (h : Tok w) (hk : sticks last w = false) (rest : List Nat) : Safe last (w ++ rest) := by
  obtain ⟨c, r, rfl, h32⟩ := tok_hd h
  intro d hd
  cases hd
  have sg : ∀ w ∈ SIGNS, w[0]?.any (fun c => decide (c ∉ WS ∧ c ≠ 62 ∧ (c = 45 → w = [45, 62]))) = true := by decide
  by_cases hl : last = []
  · subst hl; exact safe_none (c :: r) c rfl
  unfold sticks at hk
  rw [decide_eq_true hl, Bool.true_and, Bool.or_eq_false_iff] at hk
  obtain ⟨k1, k2⟩ := hk
  rcases h with ⟨n, h1, h2, hn⟩ | h
  · obtain ⟨c', r', e, hc⟩ := name_hd hn
    cases e
    refine ⟨fun ⟨x, hx, hxl⟩ => ?_, fun _ => (let_no hc).2.1, fun _ => (let_no hc).2.2⟩
    rw [hx] at k1
    simp [hc, hxl] at k1
  · have := sg _ h
    simp only [List.getElem?_cons_zero, Option.any_some, decide_eq_true_eq] at this
    obtain ⟨s1, s2, s3⟩ := this
    refine ⟨fun _ => s1, fun z e => ?_, fun _ => s2⟩
    rw [decide_eq_true z, decide_eq_true (s3 e)] at k2
    cases k2
theorem gap_safe {last w : List Nat} (h : Tok w) {n : Nat} (hk : n = 0 → sticks last w = false) (rest : List Nat) : Safe last (List.replicate n 32 ++ (w ++ rest)) := by
  by_cases z : n = 0
  · subst z; exact tok_safe h (hk rfl) rest
  · exact safe_rep _ _ _ (by omega)
def GoodJ (T last : List Nat) (R : List (List Nat × Nat)) : Prop := ∀ rest, Safe last rest → LX (T ++ rest) 0 = (R ++ (LX rest T.length).1, (LX rest T.length).2)
def BadJ (T : List Nat) (R : List (List Nat × Nat)) (b : Nat) (j : Nat) : Prop := ∃ w e, R[b]? = some (w, e) ∧ ∀ rest, (j = b + 1 → rest = [] ∨ rest[0]? = some 32) → (LX (T ++ rest) 0).2 = some e
theorem good_step {T last w : List Nat} {R : List (List Nat × Nat)} (g : GoodJ T last R) (h : Tok w) {n : Nat} (hk : n = 0 → sticks last w = false) :
    GoodJ (T ++ List.replicate n 32 ++ w) w (R ++ [(w, T.length + n)]) := by
  intro rest hs
  rw [List.append_assoc, List.append_assoc, g _ (gap_safe h hk rest), LX_sps, tok_LX h hs]
  simp [Nat.add_assoc]
theorem rep_hd {n : Nat} (h : 0 < n) (r : List Nat) : (List.replicate n 32 ++ r)[0]? = some 32 := by
  obtain ⟨m, rfl⟩ : ∃ m, n = m + 1 := ⟨n - 1, by omega⟩
  rfl
theorem bad_first {T last w : List Nat} {R : List (List Nat × Nat)} (g : GoodJ T last R) (h : Bad w) {n : Nat} (hk : 0 < n) :
    BadJ (T ++ List.replicate n 32 ++ w) (R ++ [(w, T.length + n)]) R.length (R.length + 1) := by
  refine ⟨w, T.length + n, by simp, fun rest hr => ?_⟩
  rw [List.append_assoc, List.append_assoc, g _ (safe_rep _ _ _ hk), LX_sps, bad_LX h (hr rfl)]
theorem bad_step {T w : List Nat} {R : List (List Nat × Nat)} {b j : Nat} (g : BadJ T R b j) {n : Nat} (x : List Nat × Nat) (hk : j = b + 1 → 0 < n) (hj : b < j) :
    BadJ (T ++ List.replicate n 32 ++ w) (R ++ [x]) b (j + 1) := by
  obtain ⟨v, e, he, hz⟩ := g
  have hb : b < R.length := (List.getElem?_eq_some_iff.mp he).1
  refine ⟨v, e, by rw [List.getElem?_append_left hb]; exact he, fun rest hr => ?_⟩
  rw [List.append_assoc, List.append_assoc]
  exact hz _ fun z => .inr (rep_hd (hk z) _)
theorem good_end {T last : List Nat} {R : List (List Nat × Nat)} (g : GoodJ T last R) (n : Nat) : LX (T ++ List.replicate n 32) 0 = (R, none) := by
  have s : Safe last (List.replicate n 32) := by
    by_cases z : n = 0
    · subst z; exact safe_nil _
    · have := safe_rep last n [] (by omega); simpa using this
  rw [g _ s]
  have := LX_sps n [] T.length
  rw [List.append_nil] at this
  rw [this, LX_nil, List.append_nil]
theorem bad_end {T : List Nat} {R : List (List Nat × Nat)} {b j : Nat} (g : BadJ T R b j) (n : Nat) : ∃ w e, R[b]? = some (w, e) ∧ (LX (T ++ List.replicate n 32) 0).2 = some e := by
  obtain ⟨v, e, he, hz⟩ := g
  refine ⟨v, e, he, hz _ fun _ => ?_⟩
  by_cases z : n = 0
  · subst z; exact .inl rfl
  · have := rep_hd (n := n) (by omega) []; exact .inr (by simpa using this)
theorem tok_len {w : List Nat} (h : Tok w) : w ≠ [] ∧ w.length ≤ 20 := by
  obtain ⟨c, r, e, _⟩ := tok_hd h
  refine ⟨by rw [e]; exact List.cons_ne_nil _ _, ?_⟩
  rcases h with ⟨n, h1, h2, hn⟩ | h
  · rw [hn.1]; omega
  · have : ∀ w ∈ SIGNS, w.length ≤ 20 := by decide
    exact this w h
theorem bad_len {w : List Nat} (h : Bad w) : w ≠ [] ∧ w.length ≤ 20 := by
  rcases h with ⟨n, h1, h2, hn⟩ | ⟨c, hc, rfl⟩
  · obtain ⟨c, r, rfl, hc⟩ := name_hd hn
    exact ⟨List.cons_ne_nil _ _, by rw [hn.1]; exact h2⟩
  · exact ⟨List.cons_ne_nil _ _, Nat.le_of_ble_eq_true rfl⟩
/-- the words that are joined -/
def Words (ws : List (List Nat)) (bad : Int) : Prop := ws.length ≤ 80 ∧ (∀ w ∈ ws, w ≠ [] ∧ w.length ≤ 20) ∧
  ((bad = -1 ∧ ∀ w ∈ ws, Tok w) ∨ ∃ b : Nat, bad = (b : Int) ∧ b < ws.length ∧ (∀ j w, j < b → ws[j]? = some w → Tok w) ∧ ∃ w, ws[b]? = some w ∧ Bad w)
def InvJ (T last : List Nat) (R : List (List Nat × Nat)) (bad : Int) (i : Nat) : Prop :=
  (bad = -1 ∧ GoodJ T last R) ∨ ∃ b : Nat, bad = (b : Int) ∧ ((i ≤ b ∧ GoodJ T last R) ∨ (b < i ∧ BadJ T R b i))
theorem inv_step {ws : List (List Nat)} {bad : Int} (W : Words ws bad) {T last w : List Nat} {R : List (List Nat × Nat)} {i n : Nat} (g : InvJ T last R bad i) (hR : R.length = i) (hw : ws[i]? = some w)
    (hk : n = 0 → sticks last w = false) (hk2 : n = 0 → 0 ≤ bad → (i : Int) ≠ bad ∧ (i : Int) ≠ bad + 1) : InvJ (T ++ List.replicate n 32 ++ w) w (R ++ [(w, T.length + n)]) bad (i + 1) := by
  obtain ⟨_, _, W⟩ := W
  rcases g with ⟨rfl, g⟩ | ⟨b, rfl, g⟩
  · rcases W with ⟨_, W⟩ | ⟨b, e, _⟩
    · exact .inl ⟨rfl, good_step g (W w (List.mem_of_getElem? hw)) hk⟩
    · omega
  · rcases W with ⟨e, W⟩ | ⟨b', e, hb, W1, w', W2, W3⟩
    · omega
    · have : b' = b := by omega
      subst this
      have hn : (i : Int) = (b' : Int) ∨ (i : Int) = (b' : Int) + 1 → 0 < n := fun z => by
        by_cases z0 : n = 0
        · have := hk2 z0 (by omega); omega
        · omega
      refine .inr ⟨b', rfl, ?_⟩
      rcases g with ⟨h1, g⟩ | ⟨h1, g⟩
      · by_cases z : i = b'
        · subst z
          rw [hw] at W2; cases W2
          have := bad_first g W3 (hn (.inl rfl))
          rw [hR] at this
          exact .inr ⟨Nat.lt_succ_self _, this⟩
        · exact .inl ⟨by omega, good_step g (W1 i w (by omega) hw) hk⟩
      · exact .inr ⟨by omega, bad_step g _ (fun z => hn (.inr (by omega))) h1⟩
theorem inv_end {bad : Int} {T last : List Nat} {R : List (List Nat × Nat)} {i : Nat} (g : InvJ T last R bad i) (n : Nat) (hi : ∀ b : Nat, bad = b → b < i) :
    (bad = -1 → LX (T ++ List.replicate n 32) 0 = (R, none)) ∧ ∀ b : Nat, bad = b → ∃ w e, R[b]? = some (w, e) ∧ (LX (T ++ List.replicate n 32) 0).2 = some e := by
  rcases g with ⟨rfl, g⟩ | ⟨b, rfl, g⟩
  · exact ⟨fun _ => good_end g n, fun b e => by omega⟩
  · refine ⟨fun e => by omega, fun b' e => ?_⟩
    have : b' = b := by omega
    subst this
    have := hi b' rfl
    rcases g with ⟨h1, g⟩ | ⟨h1, g⟩
    · omega
    · exact bad_end g n
end
end K12

namespace K12
open PySem PySem.Spec PyProof.Rows L2 SX
local macro_rules | `(tactic| walk_at "w1") => `(tactic| (first
  | with_reducible refine w_seq ?_ | with_reducible refine w_asgN ?_ | with_reducible refine w_c ?_
  | ((with_reducible refine' w_var ?wv ?_); (case wv => exact rfl))
  | with_reducible refine w_op ?_ | with_reducible refine w_un ?_ | with_reducible refine w_next ?_ | with_reducible refine w_brk ?_ | with_reducible refine w_cnt ?_
  | with_reducible refine w_ifS ?_ | with_reducible refine w_if ?_ | with_reducible refine w_test ?_ | with_reducible refine w_tB ?_ | with_reducible refine w_bl ?_ | with_reducible refine w_blI ?_
  | with_reducible refine w_and ?_ | with_reducible refine w_or ?_ | with_reducible refine w_not ?_ | with_reducible refine w_andV ?_ | with_reducible refine w_orV ?_ | with_reducible refine w_notV ?_
  | with_reducible refine w_nil ?_ | with_reducible refine w_cons ?_ | with_reducible refine w_cb ?_ | with_reducible refine w_call ?_ | with_reducible refine w_callS ?_ | with_reducible refine w_chain ?_
  | with_reducible refine w_tup ?_ | with_reducible refine w_lst ?_ | with_reducible refine w_sl ?_ | with_reducible refine w_noPart ?_ | with_reducible refine w_part ?_ | with_reducible refine w_partI ?_
  | with_reducible refine w_ret ?_ | with_reducible refine w_retN ?_ | with_reducible refine w_drop ?_ | with_reducible refine w_asg ?_ | with_reducible refine w_gSub ?_
  | ((with_reducible refine' w_aug ?wv ?_); (case wv => exact rfl)) | with_reducible refine w_ipI ?_
  | with_reducible refine w_addI ?_ | with_reducible refine w_subI ?_ | with_reducible refine w_ltI ?_ | with_reducible refine w_leI ?_ | with_reducible refine w_gtI ?_ | with_reducible refine w_geI ?_
  | with_reducible refine w_eqI ?_ | with_reducible refine w_neI ?_ | with_reducible refine w_eqT ?_ | with_reducible refine w_neT ?_ | with_reducible refine w_inS ?_ | with_reducible refine w_ninS ?_
  | with_reducible refine w_absI ?_ | with_reducible refine w_intI ?_ | with_reducible refine w_maxI ?_ | with_reducible refine w_minI ?_
  | with_reducible refine w_for ?_ | with_reducible refine w_iR1 ?_ | with_reducible refine w_iR2 ?_ | with_reducible refine w_iStr ?_ | with_reducible refine w_strI ?_ | with_reducible refine w_iList ?_ | with_reducible refine w_iTup ?_
  | with_reducible refine w_bm ?_ | with_reducible refine w_bm0 ?_ | with_reducible refine w_t ?_ | with_reducible refine w_f ?_ | with_reducible refine w_nt ?_ | with_reducible refine w_nx ?_ | with_reducible refine w_rt ?_ | with_reducible refine w_bk ?_ | with_reducible refine w_ct ?_ | with_reducible refine w_nf ?_))
local macro_rules | `(tactic| walk_at "w") => `(tactic| (repeat (first | walk_at "w1" | dsimp (config := { proj := false }) only [List.set_cons_zero, List.set_cons_succ])))
section
variable {w : World} {K : PySem.W.Frag} {mg : Str → Option Value} {base : Heap}

theorem rep_flat (n : Nat) : (List.replicate n [32]).flatten = List.replicate n 32 := by
  induction n with
  | zero => rfl
  | succ n ih => rw [List.replicate_succ, List.flatten_cons, ih]; rfl
theorem rows_keep {a : Addr} {H H' : Hp} (k : KeepB a H H') (D : Dice a H) {xs : List V} {rows : List (List Nat × Nat)} (h : Rows H xs rows) : Rows H' xs rows := by
  obtain ⟨_, _, _, e, _⟩ := D
  exact Rows.keep k e h
def sp_law_joined : Sp := sp3 fun x y z H Q _ => ∃ (a p : Addr) (ws : List (List Nat)) (bad : Int), x = .ref a ∧ y = .ref p ∧ z = .int bad ∧ Dice a H ∧ H p = some (.lst (ws.map fun r => V.str (S r))) ∧ Words ws bad ∧
  ∀ q b T xs R H', After a H H' → H' q = some (.tup [.str (S T), .ref b]) → H' b = some (.lst xs) → Rows H' xs R → T.length ≤ 5000 → (bad = -1 → LX T 0 = (R, none)) → (∀ n : Nat, bad = n → ∃ v e, R[n]? = some (v, e) ∧ (LX T 0).2 = some e) → Q (.ref q) H'
theorem ok_law_joined (T : Txt K mg) {fd : FuncData} (F : Fn_law_joined K fd) (hm : mg "_law_joined" = some (.ref (He.ga K "_law_joined"))) (c_law_draw : CalX P w K mg base CX0 1 "_law_draw" sp_law_draw) (c_law_sticks : CalX P w K mg base CX0 1 "_law_sticks" sp_law_sticks) : CalX P w K mg base CX0 2 "_law_joined" sp_law_joined := by
  refine calx0 (k := 1) F hm sc_law_joined (b_law_joined F) (fun _ _ _ _ h => sp3_len h) (fun cdv A outer s H vs Q E hr h => ?_)
  obtain ⟨x0, x1, x2, rfl, h⟩ := h
  refine ⟨_, (pss_cons (ps_set (i := 3) sc_law_joined.nd rfl (Or.inl rfl) (pe_op op_repS pe_str (pe_cx c_law_draw hr (by decide) rfl pass0 (pa_cons (pv 0) (pa_cons pe_int pa_nil)))))
    (pss_cons (ps_set (i := 4) sc_law_joined.nd rfl (Or.inl rfl) (pe_lst pa_nil))
    (pss_cons (ps_set (i := 5) sc_law_joined.nd rfl (Or.inl rfl) pe_str)
    (pss_cons (ps_for PassesOwn.never rfl (pi_range1 (by rfl) T.f_range (pa_cons (pe_callB call_lenQ (by rfl) T.f_len PySem.boot_len (pa_cons (pv 1) pa_nil)) pa_nil)) (pg_name (i := 6) sc_law_joined.nd rfl (Or.inl rfl))
    (pss_cons (ps_set (i := 7) sc_law_joined.nd rfl (Or.inl rfl) (pe_ix ix_list (pe_lst (pa_cons pe_int (pa_cons pe_int (pa_cons pe_int (pa_cons pe_int (pa_cons pe_int (pa_cons pe_int pa_nil))))))) (pe_cx c_law_draw hr (by decide) rfl pass0 (pa_cons (pv 0) (pa_cons pe_int pa_nil))) (fun _ _ => rfl)))
    (Evl.pss_cut (ps_if (PW.pt (pw_and (pt_cmpR op_eq (pv 7) pe_int (nomark _)) (pw_and1 (PW.pt (pw_or (pt_val (pe_cx c_law_sticks hr (by decide) rfl pass0 (pa_cons (pv 5) (pa_cons (pe_ix ix_list (pv 1) (pv 6) (fun _ _ => rfl)) pa_nil)))) (pw_or1 (PW.pt (pw_and (pt_cmpR op_geI (pv 2) pe_int (nomark _)) (pw_and1 (PW.pt (pw_or (pt_cmpR op_eq (pv 6) (pv 2) (nomark _)) (pw_or1 (pt_cmpR op_eq (pv 6) (pe_op op_addI (pv 2) pe_int) (nomark _))))))))))))))
    (pss_one (ps_set (i := 7) sc_law_joined.nd rfl (Or.inl rfl) pe_int))
    pss_nil)
    (pss_cons (ps_set (i := 3) sc_law_joined.nd rfl (Or.inl rfl) (pe_op op_catS (pv 3) (pe_op op_repS pe_str (pv 7))))
    (pss_cons (ps_expr (pe_bm PySem.F.plainAttrs_list PySem.F.slot_list_append PySem.F.type_list_append mt_append (pv 4) (pa_cons (pe_tup (pa_cons (pe_ix ix_list (pv 1) (pv 6) (fun _ _ => rfl)) (pa_cons (pe_callB call_lenT (by rfl) T.f_len PySem.boot_len (pa_cons (pv 3) pa_nil)) pa_nil))) pa_nil)))
    (pss_cons (ps_set (i := 3) sc_law_joined.nd rfl (Or.inl rfl) (pe_op op_catS (pv 3) (pe_ix ix_list (pv 1) (pv 6) (fun _ _ => rfl))))
    (pss_one (ps_set (i := 5) sc_law_joined.nd rfl (Or.inl rfl) (pe_ix ix_list (pv 1) (pv 6) (fun _ _ => rfl))))))))))
    (pss_one (ps_ret (pe_tup (pa_cons (pe_op op_catS (pv 3) (pe_op op_repS pe_str (pe_cx c_law_draw hr (by decide) rfl pass0 (pa_cons (pv 0) (pa_cons pe_int pa_nil))))) (pa_cons (pv 4) pa_nil))))))))), ?_⟩
  rw [show start ["dice", "words", "bad", "text", "rows", "last", "k", "blanks"] [x0, x1, x2] = [some x0, some x1, some x2, none, none, none, none, none] from rfl]
  obtain ⟨a, p, ws, bad, rfl, rfl, rfl, hD, hp, hW, hQ⟩ := h
  have e1 : Str.ofString " " = S [32] := S_ofs (by decide +kernel)
  have e2 : Str.ofString "" = S [] := S_ofs (by decide +kernel)
  rw [e1, e2]
  try dsimp only [cxOf]
  walk_at "w"
  refine ⟨_, _, rfl, a, 3, rfl, rfl, by omega, by omega, hD, fun n0 H1 hn0 A1 => ?_⟩
  have hpa : p ≠ a := by
    obtain ⟨_, _, _, e, _⟩ := hD
    intro z; subst z
    rw [e] at hp
    have hp := congrArg (fun o : Option HO => match o with | some (.lst (.str _ :: _)) => true | some (.lst []) => true | _ => false) hp
    cases ws <;> cases hp
  have hp1 : H1 p = some _ := A1.2 p _ hpa hp
  walk_at "w"
  refine w_repT (by show 1 * n0 ≤ _; omega) ?_
  rw [rep_flat]
  walk_at "w"
  refine w_new (Nat.le_of_ble_eq_true rfl) (fun pr hpr => ?_)
  walk_at "w"
  have A1' : After a H (upd H1 pr (.lst [])) := A1.new hpr
  have hra : pr ≠ a := after_ne A1 hpr
  have hrp : p ≠ pr := ne_of_none hp1 hpr
  have hp2 : upd H1 pr (.lst []) p = some (.lst (ws.map fun r => V.str (S r))) := by rw [upd_ne hrp]; exact hp1
  refine w_lenL (SqL.of hp2) ?_
  walk_at "w"
  have hws : ws.length ≤ 80 := hW.1
  have hwl : (ws.map fun r => V.str (S r)).length = ws.length := List.length_map _
  rw [hwl]
  refine w_rg1 (by omega) (by omega) ?_
  refine for_range (fun i σ H' => ∃ (T last : List Nat) (xs : List V) (R : List (List Nat × Nat)) (v u : Option V), σ = [some (.ref a), some (.ref p), some (.int bad), some (.str (S T)), some (.ref pr), some (.str (S last)), v, u] ∧ After a H H' ∧ H' p = some (.lst (ws.map fun r => V.str (S r))) ∧ H' pr = some (.lst xs) ∧ Rows H' xs R ∧ R.length = i ∧ T.length ≤ 2 + 25 * i ∧ last.length ≤ 20 ∧ InvJ T last R bad i)
    ⟨_, [], [], [], _, _, rfl, A1', hp2, upd_same, .nil, rfl, by rw [List.length_replicate]; omega, Nat.zero_le _, ?_⟩ ?_ ?_
  · have g0 : GoodJ (List.replicate n0 32) [] [] := fun rest _ => by
      rw [LX_sps, List.length_replicate, Nat.zero_add]; rfl
    rcases hW.2.2 with ⟨e, _⟩ | ⟨b, e, _⟩
    · exact .inl ⟨e, g0⟩
    · exact .inr ⟨b, e, .inl ⟨Nat.zero_le _, g0⟩⟩
  · rintro i σ H' hi ⟨T, last, xs, R, v, u, rfl, A, hpw, hpx, hR, hRl, hT, hla, hI⟩
    have hi : i < ws.length := hi
    obtain ⟨wd, hwd⟩ : ∃ wd, ws[i]? = some wd := ⟨_, List.getElem?_eq_getElem hi⟩
    have hwv : (ws.map fun r => V.str (S r))[i]? = some (.str (S wd)) := by rw [List.getElem?_map, hwd]; rfl
    have hwn := hW.2.1 wd (List.mem_of_getElem? hwd)
    dsimp only [gName]
    walk_at "w"
    rw [show (0 : Int) + (i : Int) = (i : Int) by omega]
    refine w_new (Nat.le_of_ble_eq_true rfl) (fun pb hpb => ?_)
    walk_at "w"
    refine ⟨_, _, rfl, a, 6, rfl, rfl, by omega, by omega, A.1.new hpb, fun d H3 hd A3 => ?_⟩
    have hb3 : H3 pb = some _ := A3.2 pb _ (after_ne A hpb) upd_same
    obtain ⟨m, hm1, hm2⟩ : ∃ m : Nat, ([.int 0, .int 0, .int 1, .int 1, .int 2, .int 5] : List V)[d]? = some (.int (m : Int)) ∧ m ≤ 5 := by
      have hd' : d < 6 := by omega
      match d, hd' with
      | 0, _ => exact ⟨0, rfl, by omega⟩
      | 1, _ => exact ⟨0, rfl, by omega⟩
      | 2, _ => exact ⟨1, rfl, by omega⟩
      | 3, _ => exact ⟨1, rfl, by omega⟩
      | 4, _ => exact ⟨2, rfl, by omega⟩
      | 5, _ => exact ⟨5, rfl, by omega⟩
    refine w_ixL (SqL.of hb3) hm1 ?_
    have AX : After a H' H3 := ⟨A3.1, (KeepB.refl a H').new hpb |>.trans A3.2⟩
    have A4 := A.trans AX
    have hpw3 := AX.2 p _ hpa hpw
    have hpx3 := AX.2 pr _ hra hpx
    have hR3 := rows_keep AX.2 A.1 hR
    walk_at "w"
    refine w_mid (fun σ H'' => H'' = H3 ∧ ∃ n : Nat, σ = [some (.ref a), some (.ref p), some (.int bad), some (.str (S T)), some (.ref pr), some (.str (S last)), some (.int (i : Int)), some (.int (n : Int))] ∧ n ≤ 5 ∧ (n = 0 → sticks last wd = false) ∧ (n = 0 → 0 ≤ bad → (i : Int) ≠ bad ∧ (i : Int) ≠ bad + 1)) ?_ ?_
    · have one : ∃ n : Nat, (1 : Int) = (n : Int) ∧ n ≤ 5 ∧ (n = 0 → sticks last wd = false) ∧ (n = 0 → 0 ≤ bad → (i : Int) ≠ bad ∧ (i : Int) ≠ bad + 1) := ⟨1, rfl, by omega, fun z => by omega, fun z => by omega⟩
      have fin1 : H3 = H3 ∧ ∃ n : Nat, [some (V.ref a), some (.ref p), some (.int bad), some (.str (S T)), some (.ref pr), some (.str (S last)), some (.int (i : Int)), some (.int 1)] = [some (.ref a), some (.ref p), some (.int bad), some (.str (S T)), some (.ref pr), some (.str (S last)), some (.int (i : Int)), some (.int (n : Int))] ∧ n ≤ 5 ∧ (n = 0 → sticks last wd = false) ∧ (n = 0 → 0 ≤ bad → (i : Int) ≠ bad ∧ (i : Int) ≠ bad + 1) :=
        ⟨rfl, 1, rfl, by omega, fun z => by omega, fun z => by omega⟩
      walk_at "w"
      refine w_dec (fun h1 => ?_) (fun h1 => ?_)
      · walk_at "w"
        refine w_ixL (SqL.of hpw3) hwv ?_
        walk_at "w"
        refine ⟨_, _, rfl, last, wd, rfl, rfl, by omega, by omega, hwn.1, ?_⟩
        walk_at "w"
        refine w_b (fun h2 => ?_) (fun h2 => ?_)
        · walk_at "w"
          exact fin1
        · walk_at "w"
          refine w_dec (fun h3 => ?_) (fun h3 => ?_)
          · walk_at "w"
            refine w_dec (fun h4 => ?_) (fun h4 => ?_)
            · walk_at "w"
              exact fin1
            · walk_at "w"
              refine w_dec (fun h5 => ?_) (fun h5 => ?_)
              · walk_at "w"
                exact fin1
              · walk_at "w"
                exact ⟨rfl, m, rfl, hm2, fun _ => h2, fun _ _ => ⟨h4, h5⟩⟩
          · walk_at "w"
            exact ⟨rfl, m, rfl, hm2, fun _ => h2, fun _ z => absurd z h3⟩
      · walk_at "w"
        exact ⟨rfl, m, rfl, hm2, fun z => absurd (by rw [z]; rfl) h1, fun z => absurd (by rw [z]; rfl) h1⟩
    rintro σ H'' ⟨rfl, n, rfl, hn, hn1, hn2⟩
    walk_at "w"
    refine w_repT (by show 1 * n ≤ _; omega) ?_
    rw [rep_flat]
    walk_at "w"
    have hTn : (T ++ List.replicate n 32).length ≤ 7 + 25 * i := by rw [List.length_append, List.length_replicate]; omega
    refine w_catT (szl (show T.length + (List.replicate n 32).length ≤ 5000 by rw [List.length_replicate]; omega)) ?_
    walk_at "w"
    refine w_lstTy hpx3 ?_
    walk_at "w"
    refine w_ixL (SqL.of hpw3) hwv ?_
    walk_at "w"
    refine w_lenS (szl (show _ ≤ 5000 by omega)) ?_
    walk_at "w"
    refine w_new (Nat.le_of_ble_eq_true rfl) (fun t ht => ?_)
    walk_at "w"
    have hlen : (T ++ List.replicate n 32).length = T.length + n := by rw [List.length_append, List.length_replicate]
    rw [hlen]
    have hrt : pr ≠ t := ne_of_none hpx3 ht
    have hpx4 : upd H'' t (.tup [.str (S wd), .int ((T.length + n : Nat) : Int)]) pr = some (.lst xs) := by rw [upd_ne hrt]; exact hpx3
    refine w_app hpx4 (Nat.lt_of_le_of_lt (show xs.length ≤ 100 by rw [hR3.len]; omega) (by decide)) ?_
    walk_at "w"
    have hpw5 : upd (upd H'' t (.tup [.str (S wd), .int ((T.length + n : Nat) : Int)])) pr (.lst (xs ++ [.ref t])) p = some (.lst (ws.map fun r => V.str (S r))) := by
      rw [upd_ne hrp, upd_ne (ne_of_none hpw3 ht)]; exact hpw3
    refine w_ixL (SqL.of hpw5) hwv ?_
    walk_at "w"
    refine w_catT (szl (show _ ≤ 5000 by omega)) ?_
    walk_at "w"
    refine w_ixL (SqL.of hpw5) hwv ?_
    walk_at "w"
    have D5 : Dice a (upd H'' t (.tup [.str (S wd), .int ((T.length + n : Nat) : Int)])) := A4.1.new ht
    have D6 : Dice a (upd (upd H'' t (.tup [.str (S wd), .int ((T.length + n : Nat) : Int)])) pr (.lst (xs ++ [.ref t]))) := by
      obtain ⟨r, f, s, e, z⟩ := D5
      exact ⟨r, f, s, by rw [upd_ne (Ne.symm hra)]; exact e, z⟩
    have kb : KeepB pr (upd H'' t (.tup [.str (S wd), .int ((T.length + n : Nat) : Int)])) (upd (upd H'' t (.tup [.str (S wd), .int ((T.length + n : Nat) : Int)])) pr (.lst (xs ++ [.ref t]))) := fun b o hb e => by rw [upd_ne hb]; exact e
    refine ⟨T ++ List.replicate n 32 ++ wd, wd, xs ++ [.ref t], R ++ [(wd, T.length + n)], _, _, rfl, ⟨D6, fun b o hb e => ?_⟩, hpw5, upd_same, ?_, ?_, ?_, hwn.2, inv_step hW hI hRl hwd hn1 hn2⟩
    · by_cases hbp : b = pr
      · subst hbp
        exact absurd (A1.2 b _ hb e) (by rw [hpr]; exact fun z => by cases z)
      · rw [upd_ne hbp, upd_ne (ne_of_none (A4.2 b o hb e) ht)]
        exact A4.2 b o hb e
    · refine Rows.snoc ⟨t, rfl, ?_⟩ (Rows.keep kb hpx4 (Rows.same (same_new (Same.refl _) ht) hR3))
      rw [upd_ne (Ne.symm hrt)]; exact upd_same
    · rw [List.length_append, hRl]; rfl
    · rw [List.length_append]; omega
  · rintro σ H' ⟨T, last, xs, R, v, u, rfl, A, hpw, hpx, hR, hRl, hT, hla, hI⟩
    walk_at "w"
    refine ⟨_, _, rfl, a, 3, rfl, rfl, by omega, by omega, A.1, fun n H3 hn A3 => ?_⟩
    walk_at "w"
    refine w_repT (by show 1 * n ≤ _; omega) ?_
    rw [rep_flat]
    walk_at "w"
    have hRl : R.length = ws.length := by rw [hRl]; exact Int.toNat_natCast _
    have hl : (T ++ List.replicate n 32).length ≤ 5000 := by
      rw [List.length_append, List.length_replicate]
      have : ((ws.length : Int)).toNat = ws.length := Int.toNat_natCast _
      omega
    refine w_catT (by rw [← List.length_append]; exact szl hl) ?_
    walk_at "w"
    refine w_new (Nat.le_of_ble_eq_true rfl) (fun t ht => ?_)
    have A4 := A.trans A3
    have hpx3 := A3.2 pr _ hra hpx
    have hR3 := rows_keep A3.2 A.1 hR
    obtain ⟨z1, z2⟩ := inv_end hI n fun b e => by
      rcases hW.2.2 with ⟨e', _⟩ | ⟨b', e', hb, _⟩
      · omega
      · have : ((ws.length : Int)).toNat = ws.length := Int.toNat_natCast _
        omega
    exact hQ t pr _ xs R _ (A4.new ht) upd_same (by rw [upd_ne (ne_of_none hpx3 ht)]; exact hpx3) (Rows.same (same_new (Same.refl _) ht) hR3) hl z1 z2

end
end K12

namespace K12
open PySem PySem.Spec PyProof.Rows L2 SX
local macro_rules | `(tactic| walk_at "w1") => `(tactic| (first
  | with_reducible refine w_seq ?_ | with_reducible refine w_asgN ?_ | with_reducible refine w_c ?_
  | ((with_reducible refine' w_var ?wv ?_); (case wv => exact rfl))
  | with_reducible refine w_op ?_ | with_reducible refine w_un ?_ | with_reducible refine w_next ?_ | with_reducible refine w_brk ?_ | with_reducible refine w_cnt ?_
  | with_reducible refine w_ifS ?_ | with_reducible refine w_if ?_ | with_reducible refine w_test ?_ | with_reducible refine w_tB ?_ | with_reducible refine w_bl ?_ | with_reducible refine w_blI ?_
  | with_reducible refine w_and ?_ | with_reducible refine w_or ?_ | with_reducible refine w_not ?_ | with_reducible refine w_andV ?_ | with_reducible refine w_orV ?_ | with_reducible refine w_notV ?_
  | with_reducible refine w_nil ?_ | with_reducible refine w_cons ?_ | with_reducible refine w_cb ?_ | with_reducible refine w_call ?_ | with_reducible refine w_callS ?_ | with_reducible refine w_chain ?_
  | with_reducible refine w_tup ?_ | with_reducible refine w_lst ?_ | with_reducible refine w_sl ?_ | with_reducible refine w_noPart ?_ | with_reducible refine w_part ?_ | with_reducible refine w_partI ?_
  | with_reducible refine w_ret ?_ | with_reducible refine w_retN ?_ | with_reducible refine w_drop ?_ | with_reducible refine w_asg ?_ | with_reducible refine w_gSub ?_
  | ((with_reducible refine' w_aug ?wv ?_); (case wv => exact rfl)) | with_reducible refine w_ipI ?_
  | with_reducible refine w_addI ?_ | with_reducible refine w_subI ?_ | with_reducible refine w_ltI ?_ | with_reducible refine w_leI ?_ | with_reducible refine w_gtI ?_ | with_reducible refine w_geI ?_
  | with_reducible refine w_eqI ?_ | with_reducible refine w_neI ?_ | with_reducible refine w_eqT ?_ | with_reducible refine w_neT ?_ | with_reducible refine w_inS ?_ | with_reducible refine w_ninS ?_
  | with_reducible refine w_absI ?_ | with_reducible refine w_intI ?_ | with_reducible refine w_maxI ?_ | with_reducible refine w_minI ?_
  | with_reducible refine w_for ?_ | with_reducible refine w_iR1 ?_ | with_reducible refine w_iR2 ?_ | with_reducible refine w_iStr ?_ | with_reducible refine w_strI ?_ | with_reducible refine w_iList ?_ | with_reducible refine w_iTup ?_
  | with_reducible refine w_bm ?_ | with_reducible refine w_bm0 ?_ | with_reducible refine w_t ?_ | with_reducible refine w_f ?_ | with_reducible refine w_nt ?_ | with_reducible refine w_nx ?_ | with_reducible refine w_rt ?_ | with_reducible refine w_bk ?_ | with_reducible refine w_ct ?_ | with_reducible refine w_nf ?_ | with_reducible refine w_lc ?_ | with_reducible refine w_yes ?_ | with_reducible refine w_neg ?_))
local macro_rules | `(tactic| walk_at "w") => `(tactic| (repeat (first | walk_at "w1" | dsimp (config := { proj := false }) only [List.set_cons_zero, List.set_cons_succ])))
section
variable {w : World} {K : PySem.W.Frag} {mg : Str → Option Value} {base : Heap}

theorem After.same {a : Addr} {H H1 H2 : Hp} (h : After a H H1) (s : Same H1 H2) : After a H H2 := by
  obtain ⟨⟨r, f, z, e, k⟩, h2⟩ := h
  exact ⟨⟨r, f, z, s _ _ e, k⟩, fun b o hb e => s _ _ (h2 b o hb e)⟩
def sp_law_round : Sp := sp1 fun x H Q _ => ∃ a : Addr, x = .ref a ∧ Dice a H ∧ ∀ H', Dice a H' → KeepB a H H' → Q (.bl true) H'
theorem dice_ne {a p : Addr} {H : Hp} {xs : List V} (D : Dice a H) (h : H p = some (.lst xs)) (hx : ∀ x ∈ xs, ∃ z, x = .str z) : p ≠ a := by
  obtain ⟨r, f, s, e, _⟩ := D
  intro z; subst z
  rw [e] at h
  cases h
  obtain ⟨z, e⟩ := hx _ List.mem_cons_self
  cases e
theorem strs_map (ws : List (List Nat)) : ∀ x ∈ ws.map (fun r => V.str (S r)), ∃ z, x = .str z := fun x h => by
  obtain ⟨r, _, rfl⟩ := List.mem_map.mp h; exact ⟨_, rfl⟩
theorem words_tok {ws : List (List Nat)} (h : ws.length ≤ 80) (ht : ∀ w ∈ ws, Tok w) : Words ws (-1) := ⟨h, fun w hw => tok_len (ht w hw), .inl ⟨rfl, ht⟩⟩
theorem words_bad {ws : List (List Nat)} (h : ws.length ≤ 75) (ht : ∀ w ∈ ws, Tok w) {b : Nat} (hb : b ≤ ws.length) {l : List Nat} (hl : Bad l) : Words (ws.take b ++ [l] ++ ws.drop b) (b : Int) := by
  have tb : (ws.take b).length = b := by rw [List.length_take]; omega
  have tb2 : (ws.take b ++ [l]).length = b + 1 := by rw [List.length_append, tb]; rfl
  refine ⟨by rw [List.length_append, tb2, List.length_drop]; omega, fun w hw => ?_, .inr ⟨b, rfl, by rw [List.length_append, tb2]; omega, fun j w hj e => ?_, l, ?_, hl⟩⟩
  · rcases List.mem_append.mp hw with hw | hw
    · rcases List.mem_append.mp hw with hw | hw
      · exact tok_len (ht w (List.mem_of_mem_take hw))
      · rw [List.mem_singleton.mp hw]; exact bad_len hl
    · exact tok_len (ht w (List.mem_of_mem_drop hw))
  · rw [List.getElem?_append_left (by omega), List.getElem?_append_left (by omega), List.getElem?_take] at e
    rw [if_pos hj] at e
    exact ht w (List.mem_of_getElem? e)
  · rw [List.getElem?_append_left (by omega), List.getElem?_append_right (by omega), tb, Nat.sub_self]; rfl
theorem words_more {ws : List (List Nat)} {b : Nat} (W : Words ws (b : Int)) (h : ws.length ≤ 79) {l : List Nat} (hl : Bad l) : Words (ws ++ [l]) (b : Int) := by
  obtain ⟨_, W2, W3⟩ := W
  refine ⟨by rw [List.length_append]; simp; omega, fun w hw => ?_, .inr ?_⟩
  · rcases List.mem_append.mp hw with hw | hw
    · exact W2 w hw
    · rw [List.mem_singleton.mp hw]; exact bad_len hl
  · rcases W3 with ⟨e, _⟩ | ⟨b', e, h1, h2, w, h3, h4⟩
    · omega
    · have : b' = b := by omega
      subst this
      exact ⟨b', rfl, by rw [List.length_append]; omega, fun j w hj e => h2 j w hj (by rw [List.getElem?_append_left (by omega)] at e; exact e), w, by rw [List.getElem?_append_left h1]; exact h3, h4⟩
theorem ok_law_round (T : Txt K mg) {fd : FuncData} (F : Fn_law_round K fd) (hm : mg "_law_round" = some (.ref (He.ga K "_law_round"))) (c_law_draw : CalX P w K mg base CX0 1 "_law_draw" sp_law_draw) (c_law_token : CalX P w K mg base CX0 3 "_law_token" sp_law_token) (c_law_bad : CalX P w K mg base CX0 3 "_law_bad" sp_law_bad) (c_law_joined : CalX P w K mg base CX0 2 "_law_joined" sp_law_joined) (c_law_changed : CalX P w K mg base CX0 2 "_law_changed" sp_law_changed) (c_law_scan : CalX P w K mg base CX0 2 "_law_scan" sp_law_scan) (c_law_signs : CalX P w K mg base CX0 2 "_law_signs" sp_law_signs) (c_law_long : CalX P w K mg base CX0 2 "_law_long" sp_law_long) (c_law_agrees : CalX P w K mg base CX0 2 "_law_agrees" sp_law_agrees) (c_law_asked : CalX P w K mg base CX0 4 "_law_asked" sp_law_asked) : CalX P w K mg base CX0 5 "_law_round" sp_law_round := by
  refine calx0 (k := 4) F hm sc_law_round (b_law_round F) (fun _ _ _ _ h => sp1_len h) (fun cdv A outer s H vs Q E hr h => ?_)
  obtain ⟨x0, rfl, h⟩ := h
  refine ⟨_, (pss_cons (ps_set (i := 1) sc_law_round.nd rfl (Or.inl rfl) (pe_cx c_law_draw hr (by decide) rfl pass0 (pa_cons (pv 0) (pa_cons pe_int pa_nil))))
    (pss_cons (ps_setLc (i := 2) (own := [("k", 7)]) (g := gName 7) (tt := tYes) (by rfl) sc_law_round.nd rfl rfl (sw_true rfl rfl rfl (by decide +kernel)) (pi_range1 (by rfl) T.f_range (pa_cons (pe_cx c_law_draw hr (by decide) rfl pass0 (pa_cons (pv 0) (pa_cons pe_int pa_nil))) pa_nil)) (blkOk_by (own := [("k", 7)]) (N := ["dice", "mode", "words", "bad", "made", "text", "due", "k"]) (sc := defScope s_law_round) (by decide +kernel)) (fun _ _ _ _ _ => pg_name (i := 7) sc_law_round.nd rfl (Or.inl rfl)) (fun _ _ _ _ _ => pts_nil) (fun _ _ _ _ _ => (pe_cx c_law_token hr (by decide) rfl pass0 (pa_cons (pv 0) pa_nil))))
    (pss_cons (ps_set (i := 3) sc_law_round.nd rfl (Or.inl rfl) (pe_un un_neg pe_int))
    (Evl.pss_cut (ps_if (pt_cmpR op_eq (pv 1) pe_int (nomark _))
    (pss_one (ps_set (i := 2) sc_law_round.nd rfl (Or.inl rfl) (pe_op op_cat (pv 2) (pe_lc (own := [("k", 7)]) (g := gName 7) (tt := tYes) (by rfl) sc_law_round.nd (pi_range1 (by rfl) T.f_range (pa_cons pe_int pa_nil)) (blkOk_by (own := [("k", 7)]) (N := ["dice", "mode", "words", "bad", "made", "text", "due", "k"]) (sc := defScope s_law_round) (by decide +kernel)) (fun _ _ _ _ _ => pg_name (i := 7) sc_law_round.nd rfl (Or.inl rfl)) (fun _ _ _ _ _ => pts_nil) (fun _ _ _ _ _ => (pe_cx c_law_token hr (by decide) rfl pass0 (pa_cons (pv 0) pa_nil)))))))
    pss_nil)
    (Evl.pss_cut (ps_if (pt_chain op_leI op_ltI pe_int (pv 1) pe_int)
    (pss_cons (ps_set (i := 3) sc_law_round.nd rfl (Or.inl rfl) (pe_cx c_law_draw hr (by decide) rfl pass0 (pa_cons (pv 0) (pa_cons (pe_op op_addI (pe_callB call_lenQ (by rfl) T.f_len PySem.boot_len (pa_cons (pv 2) pa_nil)) pe_int) pa_nil))))
    (pss_cons (ps_set (i := 2) sc_law_round.nd rfl (Or.inl rfl) (pe_op op_cat (pe_op op_cat (pe_slice sl_list (pv 2) po_none (po_some (pv 3))) (pe_lst (pa_cons (pe_cx c_law_bad hr (by decide) rfl pass0 (pa_cons (pv 0) pa_nil)) pa_nil))) (pe_slice sl_list (pv 2) (po_some (pv 3)) po_none)))
    (pss_one (ps_if (pt_cmpR op_eq (pe_cx c_law_draw hr (by decide) rfl pass0 (pa_cons (pv 0) (pa_cons pe_int pa_nil))) pe_int (nomark _))
    (pss_one (ps_expr (pe_bm PySem.F.plainAttrs_list PySem.F.slot_list_append PySem.F.type_list_append mt_append (pv 2) (pa_cons (pe_cx c_law_bad hr (by decide) rfl pass0 (pa_cons (pv 0) pa_nil)) pa_nil))))
    pss_nil))))
    pss_nil)
    (pss_cons (ps_set (i := 4) sc_law_round.nd rfl (Or.inl rfl) (pe_cx c_law_joined hr (by decide) rfl pass0 (pa_cons (pv 0) (pa_cons (pv 2) (pa_cons (pv 3) pa_nil)))))
    (pss_cons (ps_set (i := 5) sc_law_round.nd rfl (Or.inl rfl) (pe_ix ix_tup (pv 4) pe_int (fun _ _ => rfl)))
    (pss_cons (ps_set (i := 6) sc_law_round.nd rfl (Or.inl rfl) (pe_tup (pa_cons pe_int (pa_cons (pe_ix ix_tup (pv 4) pe_int (fun _ _ => rfl)) pa_nil))))
    (Evl.pss_cut (ps_if (pt_cmpR op_geI (pv 3) pe_int (nomark _))
    (pss_one (ps_set (i := 6) sc_law_round.nd rfl (Or.inl rfl) (pe_tup (pa_cons pe_int (pa_cons (pe_ix ix_tup (pe_ix ix_list (pe_ix ix_tup (pv 4) pe_int (fun _ _ => rfl)) (pv 3) (fun _ _ => rfl)) pe_int (fun _ _ => rfl)) pa_nil)))))
    pss_nil)
    (Evl.pss_cut (ps_if (pt_chain op_leI op_ltI pe_int (pv 1) pe_int)
    (pss_cons (ps_set (i := 5) sc_law_round.nd rfl (Or.inl rfl) (pe_cx c_law_changed hr (by decide) rfl pass0 (pa_cons (pv 0) (pa_cons (pv 5) pa_nil))))
    (pss_one (ps_set (i := 6) sc_law_round.nd rfl (Or.inl rfl) (pe_cx c_law_scan hr (by decide) rfl pass0 (pa_cons (pv 5) pa_nil)))))
    pss_nil)
    (Evl.pss_cut (ps_if (pt_chain op_leI op_ltI pe_int (pv 1) pe_int)
    (pss_cons (ps_set (i := 5) sc_law_round.nd rfl (Or.inl rfl) (pe_cx c_law_signs hr (by decide) rfl pass0 (pa_cons (pv 0) pa_nil)))
    (pss_one (ps_set (i := 6) sc_law_round.nd rfl (Or.inl rfl) (pe_cx c_law_scan hr (by decide) rfl pass0 (pa_cons (pv 5) pa_nil)))))
    pss_nil)
    (Evl.pss_cut (ps_if (pt_cmpR op_eq (pv 1) pe_int (nomark _))
    (pss_cons (ps_set (i := 5) sc_law_round.nd rfl (Or.inl rfl) (pe_cx c_law_long hr (by decide) rfl pass0 (pa_cons (pv 0) (pa_cons (pv 5) pa_nil))))
    (pss_cons (ps_set (i := 6) sc_law_round.nd rfl (Or.inl rfl) (pe_tup (pa_cons pe_int (pa_cons pe_int pa_nil))))
    (pss_one (ps_if (pt_cmpR op_leI (pe_callB call_lenT (by rfl) T.f_len PySem.boot_len (pa_cons (pv 5) pa_nil)) pe_int (nomark _))
    (pss_one (ps_set (i := 6) sc_law_round.nd rfl (Or.inl rfl) (pe_cx c_law_scan hr (by decide) rfl pass0 (pa_cons (pv 5) pa_nil))))
    pss_nil))))
    pss_nil)
    (pss_one (ps_ret (pe_cx c_law_agrees hr (by decide) rfl pass0 (pa_cons (pe_cx c_law_asked hr (by decide) rfl pass0 (pa_cons (pv 5) pa_nil)) (pa_cons (pv 6) pa_nil))))))))))))))))), ?_⟩
  rw [show start ["dice", "mode", "words", "bad", "made", "text", "due", "k"] [x0] = [some x0, none, none, none, none, none, none, none] from rfl]
  obtain ⟨a, rfl, hD0, hQ⟩ := h
  try dsimp only [cxOf]
  walk_at "w"
  refine ⟨_, _, rfl, a, 16, rfl, rfl, by omega, by omega, hD0, fun mode H1 hmode A1 => ?_⟩
  walk_at "w"
  refine ⟨_, _, rfl, a, 13, rfl, rfl, by omega, by omega, A1.1, fun nt H2 hnt A2 => ?_⟩
  walk_at "w"
  refine w_rg1 (by omega) (by omega) ?_
  intro D hD
  have A2 := A1.trans A2
  have hDa : D ≠ a := after_ne A2 hD
  rw [show ((nt : Nat) : Int).toNat = nt from Int.toNat_natCast _]
  have hnt : nt ≤ 12 := by omega
  refine lc_range (fun i H' => After a H2 H' ∧ ∃ ws : List (List Nat), H' D = some (.lst (ws.map fun r => V.str (S r))) ∧ ws.length = i ∧ ∀ w ∈ ws, Tok w) ⟨(After.new ⟨A2.1, KeepB.refl _ _⟩ hD), [], upd_same, rfl, fun _ h => by cases h⟩ ?_ ?_
  · rintro i H' hi ⟨A, ws, hd, hl, hT⟩
    dsimp only [gName]
    refine ⟨rfl, ?_⟩
    walk_at "w"
    refine ⟨_, rfl, a, rfl, A.1, fun l H2 hl' A2 => ?_⟩
    refine ⟨_, A2.2 D _ hDa hd, Nat.lt_of_le_of_lt (show _ ≤ 100 by rw [List.length_map, hl]; have : i < 60 := Nat.lt_of_lt_of_le hi (by omega); omega) (by decide), ?_⟩
    refine ⟨?_, ws ++ [l], by rw [upd_same, List.map_append]; rfl, by rw [List.length_append, hl]; rfl, fun w hw => ?_⟩
    · have A3 := A.trans A2
      refine ⟨?_, fun b o hb e => ?_⟩
      · obtain ⟨r, f, s, e, z⟩ := A3.1
        exact ⟨r, f, s, by rw [upd_ne (Ne.symm hDa)]; exact e, z⟩
      · rw [upd_ne (ne_of_none e hD)]
        exact A3.2 b o hb e
    · rcases List.mem_append.mp hw with z | z
      · exact hT w z
      · rw [List.mem_singleton.mp z]; exact hl'
  rintro H3 ⟨A3, ws, hws, hwl, hT⟩
  have A3 := A2.trans A3
  clear A2 hD
  have hwl : ws.length ≤ 12 := by omega
  have n1 : Str.ofString "k" = Str.ofString "k" := rfl
  walk_at "w"
  refine w_mid (fun σ H' => ∃ (p : Addr) (ws : List (List Nat)), σ = [some (.ref a), some (.int (mode : Int)), some (.ref p), some (.int (-1)), none, none, none, none] ∧ After a H H' ∧ H' p = some (.lst (ws.map fun r => V.str (S r))) ∧ ws.length ≤ 72 ∧ ∀ w ∈ ws, Tok w) ?_ ?_
  · walk_at "w"
    refine w_dec (fun h1 => ?_) (fun h1 => ?_)
    · walk_at "w"
      refine w_rg1 (by omega) (by omega) ?_
      intro D2 hD2
      have hDa2 : D2 ≠ a := after_ne A3 hD2
      refine lc_range (fun i H' => After a H3 H' ∧ ∃ ws : List (List Nat), H' D2 = some (.lst (ws.map fun r => V.str (S r))) ∧ ws.length = i ∧ ∀ w ∈ ws, Tok w) ⟨(After.new ⟨A3.1, KeepB.refl _ _⟩ hD2), [], upd_same, rfl, fun _ h => by cases h⟩ ?_ ?_
      · rintro i H' hi ⟨A, wz, hd, hl, hT2⟩
        dsimp only [gName]
        refine ⟨rfl, ?_⟩
        walk_at "w"
        refine ⟨_, rfl, a, rfl, A.1, fun l H4 hl' A2 => ?_⟩
        refine ⟨_, A2.2 D2 _ hDa2 hd, Nat.lt_of_le_of_lt (show _ ≤ 100 by rw [List.length_map, hl]; have : i < 60 := Nat.lt_of_lt_of_le hi (by omega); omega) (by decide), ?_⟩
        refine ⟨?_, wz ++ [l], by rw [upd_same, List.map_append]; rfl, by rw [List.length_append, hl]; rfl, fun w hw => ?_⟩
        · have A3 := A.trans A2
          refine ⟨?_, fun b o hb e => ?_⟩
          · obtain ⟨r, f, s, e, z⟩ := A3.1
            exact ⟨r, f, s, by rw [upd_ne (Ne.symm hDa2)]; exact e, z⟩
          · rw [upd_ne (ne_of_none e hD2)]
            exact A3.2 b o hb e
        · rcases List.mem_append.mp hw with z | z
          · exact hT2 w z
          · rw [List.mem_singleton.mp z]; exact hl'
      rintro H4 ⟨A4, w2, hw2, hwl2, hT2⟩
      have hws4 := A4.2 D _ hDa hws
      have A4 := A3.trans A4
      have hwl2 : w2.length ≤ 60 := by rw [hwl2]; decide
      refine w_catL hws4 hw2 (Nat.le_trans (show _ ≤ 100 by rw [List.length_map, List.length_map]; omega) (by decide)) (fun t ht => ?_)
      walk_at "w"
      refine ⟨t, ws ++ w2, rfl, A4.new ht, by rw [upd_same, List.map_append], by rw [List.length_append]; omega, fun w hw => ?_⟩
      rcases List.mem_append.mp hw with z | z
      · exact hT w z
      · exact hT2 w z
    · walk_at "w"
      exact ⟨D, ws, rfl, A3, hws, by omega, hT⟩
  rintro σ H4 ⟨p, ws, rfl, A4, hws, hwl, hT⟩
  clear A3 hDa
  have hpa := dice_ne A4.1 hws (strs_map ws)
  walk_at "w"
  refine w_mid (fun σ H' => ∃ (p : Addr) (ws : List (List Nat)) (bad : Int), σ = [some (.ref a), some (.int (mode : Int)), some (.ref p), some (.int bad), none, none, none, none] ∧ After a H H' ∧ H' p = some (.lst (ws.map fun r => V.str (S r))) ∧ Words ws bad) ?_ ?_
  · have no : ∃ (p_1 : Addr) (ws_1 : List (List Nat)) (bad : Int), [some (V.ref a), some (V.int (mode : Int)), some (V.ref p), some (V.int (-1)), none, none, none, none] = [some (.ref a), some (.int (mode : Int)), some (.ref p_1), some (.int bad), none, none, none, none] ∧ After a H H4 ∧ H4 p_1 = some (.lst (ws_1.map fun r => V.str (S r))) ∧ Words ws_1 bad := ⟨p, ws, -1, rfl, A4, hws, words_tok (by omega) hT⟩
    walk_at "w"
    refine w_dec (fun h1 => ?_) (fun h1 => ?_)
    rotate_left
    · walk_at "w"
      exact no
    walk_at "w"
    refine w_dec (fun h2 => ?_) (fun h2 => ?_)
    rotate_left
    · walk_at "w"
      exact no
    walk_at "w"
    refine w_lenL (SqL.of hws) ?_
    walk_at "w"
    refine ⟨_, _, rfl, a, (ws.map fun r => V.str (S r)).length + 1, rfl, rfl, by omega, by rw [List.length_map]; omega, A4.1, fun b H5 hb A5 => ?_⟩
    have hws5 := A5.2 p _ hpa hws
    have A5 := A4.trans A5
    rw [List.length_map] at hb
    have hb : b ≤ ws.length := by omega
    walk_at "w"
    refine w_lTo (SqL.of hws5) (fun p1 hp1 => ?_)
    have ws6 := (upd_ne (o := .lst ((ws.map fun r => V.str (S r)).take b)) (ne_of_none hws5 hp1)).trans hws5
    have A6 := A5.new (o := .lst ((ws.map fun r => V.str (S r)).take b)) hp1
    have h6 : upd H5 p1 (.lst ((ws.map fun r => V.str (S r)).take b)) p1 = _ := upd_same
    generalize upd H5 p1 (.lst ((ws.map fun r => V.str (S r)).take b)) = H6 at ws6 A6 h6 ⊢
    walk_at "w"
    refine ⟨_, rfl, a, rfl, A6.1, fun l H7 hl A7 => ?_⟩
    have ws7 := A7.2 p _ hpa ws6
    have h7 := A7.2 p1 _ (dice_ne A6.1 h6 fun x hx => strs_map ws x (List.mem_of_mem_take hx)) h6
    have A7 := A6.trans A7
    walk_at "w"
    refine w_new (Nat.le_of_ble_eq_true rfl) (fun p2 hp2 => ?_)
    have ws8 := (upd_ne (o := .lst [.str (S l)]) (ne_of_none ws7 hp2)).trans ws7
    have h8 := (upd_ne (o := .lst [.str (S l)]) (ne_of_none h7 hp2)).trans h7
    have g8 : upd H7 p2 (.lst [.str (S l)]) p2 = _ := upd_same
    have A8 := A7.new (o := .lst [.str (S l)]) hp2
    generalize upd H7 p2 (.lst [.str (S l)]) = H8 at ws8 A8 h8 g8 ⊢
    refine w_catL h8 g8 (Nat.le_trans (show _ ≤ 100 by rw [List.length_take, List.length_map]; simp; omega) (by decide)) (fun p3 hp3 => ?_)
    have ws9 := (upd_ne (o := .lst ((ws.map fun r => V.str (S r)).take b ++ [.str (S l)])) (ne_of_none ws8 hp3)).trans ws8
    have h9 : upd H8 p3 (.lst ((ws.map fun r => V.str (S r)).take b ++ [.str (S l)])) p3 = _ := upd_same
    have A9 := A8.new (o := .lst ((ws.map fun r => V.str (S r)).take b ++ [.str (S l)])) hp3
    generalize upd H8 p3 (.lst ((ws.map fun r => V.str (S r)).take b ++ [.str (S l)])) = H9 at ws9 A9 h9 ⊢
    walk_at "w"
    refine w_lFrom (SqL.of ws9) (fun p4 hp4 => ?_)
    have h10 := (upd_ne (o := .lst ((ws.map fun r => V.str (S r)).drop b)) (ne_of_none h9 hp4)).trans h9
    have g10 : upd H9 p4 (.lst ((ws.map fun r => V.str (S r)).drop b)) p4 = _ := upd_same
    have A10 := A9.new (o := .lst ((ws.map fun r => V.str (S r)).drop b)) hp4
    generalize upd H9 p4 (.lst ((ws.map fun r => V.str (S r)).drop b)) = H10 at A10 h10 g10 ⊢
    refine w_catL h10 g10 (Nat.le_trans (show _ ≤ 1000 by rw [List.length_append, List.length_take, List.length_drop, List.length_map]; simp; omega) (by decide)) (fun p5 hp5 => ?_)
    have fr5 : ∀ o z, o ≠ a → H o = some z → o ≠ p5 := fun o z h e => ne_of_none (A10.2 o z h e) hp5
    have e11 : (ws.map fun r => V.str (S r)).take b ++ [.str (S l)] ++ (ws.map fun r => V.str (S r)).drop b = (ws.take b ++ [l] ++ ws.drop b).map fun r => V.str (S r) := by
      rw [List.map_append, List.map_append, List.map_take, List.map_drop]; rfl
    rw [e11]
    have W := words_bad (by omega) hT hb hl
    have wl : (ws.take b ++ [l] ++ ws.drop b).length ≤ 75 := by rw [List.length_append, List.length_append, List.length_take, List.length_drop]; simp; omega
    have h11 : upd H10 p5 (.lst ((ws.take b ++ [l] ++ ws.drop b).map fun r => V.str (S r))) p5 = _ := upd_same
    have A11 := A10.new (o := .lst ((ws.take b ++ [l] ++ ws.drop b).map fun r => V.str (S r))) hp5
    generalize upd H10 p5 (.lst ((ws.take b ++ [l] ++ ws.drop b).map fun r => V.str (S r))) = H11 at A11 h11 ⊢
    generalize ws.take b ++ [l] ++ ws.drop b = wz at W wl h11
    walk_at "w"
    refine ⟨_, _, rfl, a, 2, rfl, rfl, by omega, by omega, A11.1, fun c H12 hc A12 => ?_⟩
    have hp5a := dice_ne A11.1 h11 (strs_map wz)
    have h12 := A12.2 p5 _ hp5a h11
    have A12 := A11.trans A12
    walk_at "w"
    refine w_dec (fun h3 => ?_) (fun h3 => ?_)
    · walk_at "w"
      refine w_lstTy h12 ?_
      walk_at "w"
      refine ⟨_, rfl, a, rfl, A12.1, fun l2 H13 hl2 A13 => ?_⟩
      have h13 := A13.2 p5 _ hp5a h12
      have A13 := A12.trans A13
      walk_at "w"
      refine w_app h13 (Nat.lt_of_le_of_lt (show _ ≤ 100 by rw [List.length_map]; omega) (by decide)) ?_
      walk_at "w"
      refine ⟨p5, wz ++ [l2], b, rfl, ⟨?_, fun o z hb' e => ?_⟩, by rw [upd_same, List.map_append]; rfl, words_more W (by omega) hl2⟩
      · obtain ⟨r, f, s, e, z⟩ := A13.1
        exact ⟨r, f, s, by rw [upd_ne (Ne.symm hp5a)]; exact e, z⟩
      · rw [upd_ne (fr5 o z hb' e)]
        exact A13.2 o z hb' e
    · walk_at "w"
      exact ⟨p5, wz, b, rfl, A12, h12, W⟩
  rintro σ H5 ⟨p, ws, bad, rfl, A5, hws, hW⟩
  clear A4 hpa
  have hpa := dice_ne A5.1 hws (strs_map ws)
  walk_at "w"
  refine ⟨_, _, _, rfl, a, p, ws, bad, rfl, rfl, rfl, A5.1, hws, hW, fun q rp T xs R H6 A6 hq hrp hR hTl z1 z2 => ?_⟩
  have A6 := A5.trans A6
  walk_at "w"
  refine w_ixU (n := 0) (SqT.of hq) rfl ?_
  walk_at "w"
  refine w_ixU (n := 1) (SqT.of hq) rfl ?_
  walk_at "w"
  refine w_new (Nat.le_of_ble_eq_true rfl) (fun d hd => ?_)
  walk_at "w"
  refine w_mid (fun σ H' => ∃ (u1 u2 u3 u4 : Option V) (d : Addr) (T : List Nat), σ = [some (.ref a), some (.int (mode : Int)), u1, u2, u3, some (.str (S T)), some (.ref d), u4] ∧ After a H H' ∧ T.length ≤ 5000 ∧ Due H' d T) ?_ ?_
  · walk_at "w"
    refine w_dec (fun h1 => ?_) (fun h1 => ?_)
    · obtain ⟨b, hb⟩ : ∃ b : Nat, bad = (b : Int) := ⟨bad.toNat, by omega⟩
      subst hb
      obtain ⟨v, e, hv, he⟩ := z2 b rfl
      have ev : b < xs.length := by rw [hR.len]; exact (List.getElem?_eq_some_iff.mp hv).1
      obtain ⟨r, x, e1, e2, c1, rfl, e3⟩ := Rows.at hR b ev
      rw [hv] at e1; cases e1
      have hq' := (upd_ne (o := .tup [.int 0, .ref rp]) (ne_of_none hq hd)).trans hq
      have hrp' := (upd_ne (o := .tup [.int 0, .ref rp]) (ne_of_none hrp hd)).trans hrp
      have e3' := (upd_ne (o := .tup [.int 0, .ref rp]) (ne_of_none e3 hd)).trans e3
      have A7 := A6.new (o := .tup [.int 0, .ref rp]) hd
      generalize upd H6 d (.tup [.int 0, .ref rp]) = H7 at hq' hrp' e3' A7 ⊢
      walk_at "w"
      refine w_ixU (n := 1) (SqT.of hq') rfl ?_
      walk_at "w"
      refine w_ixL (SqL.of hrp') e2 ?_
      walk_at "w"
      refine w_ixU (n := 1) (SqT.of e3') rfl ?_
      walk_at "w"
      refine w_new (Nat.le_of_ble_eq_true rfl) (fun d2 hd2 => ?_)
      walk_at "w"
      exact ⟨_, _, _, _, d2, T, rfl, A7.new hd2, hTl, .inr ⟨1, e, .inl ⟨rfl, by omega, he⟩, upd_same⟩⟩
    · walk_at "w"
      have hbad : bad = -1 := by
        rcases hW.2.2 with ⟨e, _⟩ | ⟨b, e, _⟩
        · exact e
        · omega
      have z := z1 hbad
      exact ⟨_, _, _, _, d, T, rfl, A6.new hd, hTl, .inl ⟨by omega, by rw [z], rp, xs, upd_same, by rw [upd_ne (ne_of_none hrp hd)]; exact hrp, by rw [z]; exact Rows.same (same_new (Same.refl _) hd) hR⟩⟩
  clear A5 A6 hpa
  rintro σ H7 ⟨u1, u2, u3, u4, d, T, rfl, A7, hTl, hDu⟩
  walk_at "w"
  refine w_mid (fun σ H' => ∃ (u1 u2 u3 u4 : Option V) (d : Addr) (T : List Nat), σ = [some (.ref a), some (.int (mode : Int)), u1, u2, u3, some (.str (S T)), some (.ref d), u4] ∧ After a H H' ∧ (T.length ≤ 5000 ∨ mode < 15) ∧ T.length ≤ 90000 ∧ Due H' d T) ?_ ?_
  · walk_at "w"
    refine w_dec (fun h1 => ?_) (fun h1 => ?_)
    rotate_left
    · walk_at "w"
      exact ⟨_, _, _, _, d, T, rfl, A7, .inl hTl, by omega, hDu⟩
    walk_at "w"
    refine w_dec (fun h2 => ?_) (fun h2 => ?_)
    rotate_left
    · walk_at "w"
      exact ⟨_, _, _, _, d, T, rfl, A7, .inl hTl, by omega, hDu⟩
    walk_at "w"
    refine ⟨_, _, rfl, a, T, rfl, rfl, hTl, A7.1, fun T2 H8 hT2 A8 => ?_⟩
    have A8 := A7.trans A8
    walk_at "w"
    refine ⟨_, rfl, T2, rfl, by omega, fun d2 H9 sm hd2 => ?_⟩
    walk_at "w"
    exact ⟨_, _, _, _, d2, T2, rfl, A8.same sm, .inr (by omega), by omega, hd2⟩
  clear A7 hDu
  rintro σ H7 ⟨u1, u2, u3, u4, d, T, rfl, A7, hTl, hTk, hDu⟩
  walk_at "w"
  refine w_mid (fun σ H' => ∃ (u1 u2 u3 u4 : Option V) (d : Addr) (T : List Nat), σ = [some (.ref a), some (.int (mode : Int)), u1, u2, u3, some (.str (S T)), some (.ref d), u4] ∧ After a H H' ∧ (T.length ≤ 5000 ∨ mode < 15) ∧ T.length ≤ 90000 ∧ Due H' d T) ?_ ?_
  · walk_at "w"
    refine w_dec (fun h1 => ?_) (fun h1 => ?_)
    rotate_left
    · walk_at "w"
      exact ⟨_, _, _, _, d, T, rfl, A7, hTl, by omega, hDu⟩
    walk_at "w"
    refine w_dec (fun h2 => ?_) (fun h2 => ?_)
    rotate_left
    · walk_at "w"
      exact ⟨_, _, _, _, d, T, rfl, A7, hTl, by omega, hDu⟩
    walk_at "w"
    refine ⟨_, rfl, a, rfl, A7.1, fun T2 H8 hT2 A8 => ?_⟩
    have A8 := A7.trans A8
    walk_at "w"
    refine ⟨_, rfl, T2, rfl, by omega, fun d2 H9 sm hd2 => ?_⟩
    walk_at "w"
    exact ⟨_, _, _, _, d2, T2, rfl, A8.same sm, .inr (by omega), by omega, hd2⟩
  clear A7 hDu
  rintro σ H7 ⟨u1, u2, u3, u4, d, T, rfl, A7, hTl, hTk, hDu⟩
  walk_at "w"
  refine w_mid (fun σ H' => ∃ (u1 u2 u3 u4 : Option V) (d : Addr) (T : List Nat), σ = [some (.ref a), some (.int (mode : Int)), u1, u2, u3, some (.str (S T)), some (.ref d), u4] ∧ After a H H' ∧ T.length ≤ 90000 ∧ Due H' d T) ?_ ?_
  · walk_at "w"
    refine w_dec (fun h1 => ?_) (fun h1 => ?_)
    rotate_left
    · walk_at "w"
      exact ⟨_, _, _, _, d, T, rfl, A7, hTk, hDu⟩
    walk_at "w"
    refine ⟨_, _, rfl, a, T, rfl, rfl, by omega, A7.1, fun T2 H8 hT2 A8 => ?_⟩
    have A8 := A7.trans A8
    walk_at "w"
    refine w_new (Nat.le_of_ble_eq_true rfl) (fun d2 hd2 => ?_)
    have A9 := A8.new (o := .tup [.int 2, .int 20000]) hd2
    walk_at "w"
    refine w_lenS (szl hT2) ?_
    walk_at "w"
    refine w_dec (fun h2 => ?_) (fun h2 => ?_)
    · walk_at "w"
      refine ⟨_, rfl, T2, rfl, by omega, fun d3 H9 sm hd3 => ?_⟩
      walk_at "w"
      exact ⟨_, _, _, _, d3, T2, rfl, A9.same sm, by omega, hd3⟩
    · walk_at "w"
      exact ⟨_, _, _, _, d2, T2, rfl, A9, by omega, .inr ⟨2, 20000, .inr ⟨rfl, rfl, by omega⟩, upd_same⟩⟩
  clear A7 hDu
  rintro σ H7 ⟨u1, u2, u3, u4, d, T, rfl, A7, hTk, hDu⟩
  walk_at "w"
  refine ⟨_, rfl, T, rfl, by omega, fun t H8 sm hA => ?_⟩
  walk_at "w"
  refine ⟨_, _, rfl, t, d, T, rfl, rfl, hA, Due.same sm hDu, ?_⟩
  have A8 := A7.same sm
  exact hQ _ A8.1 A8.2

end
end K12

namespace K12
open PySem PySem.Spec PyProof.Rows L2 SX
local macro_rules | `(tactic| walk_at "w1") => `(tactic| (first
  | with_reducible refine w_seq ?_ | with_reducible refine w_asgN ?_ | with_reducible refine w_c ?_
  | ((with_reducible refine' w_var ?wv ?_); (case wv => exact rfl))
  | with_reducible refine w_op ?_ | with_reducible refine w_un ?_ | with_reducible refine w_next ?_ | with_reducible refine w_brk ?_ | with_reducible refine w_cnt ?_
  | with_reducible refine w_ifS ?_ | with_reducible refine w_if ?_ | with_reducible refine w_test ?_ | with_reducible refine w_tB ?_ | with_reducible refine w_bl ?_ | with_reducible refine w_blI ?_
  | with_reducible refine w_and ?_ | with_reducible refine w_or ?_ | with_reducible refine w_not ?_ | with_reducible refine w_andV ?_ | with_reducible refine w_orV ?_ | with_reducible refine w_notV ?_
  | with_reducible refine w_nil ?_ | with_reducible refine w_cons ?_ | with_reducible refine w_cb ?_ | with_reducible refine w_call ?_ | with_reducible refine w_callS ?_ | with_reducible refine w_chain ?_
  | with_reducible refine w_tup ?_ | with_reducible refine w_lst ?_ | with_reducible refine w_sl ?_ | with_reducible refine w_noPart ?_ | with_reducible refine w_part ?_ | with_reducible refine w_partI ?_
  | with_reducible refine w_ret ?_ | with_reducible refine w_retN ?_ | with_reducible refine w_drop ?_ | with_reducible refine w_asg ?_ | with_reducible refine w_gSub ?_
  | ((with_reducible refine' w_aug ?wv ?_); (case wv => exact rfl)) | with_reducible refine w_ipI ?_
  | with_reducible refine w_addI ?_ | with_reducible refine w_subI ?_ | with_reducible refine w_ltI ?_ | with_reducible refine w_leI ?_ | with_reducible refine w_gtI ?_ | with_reducible refine w_geI ?_
  | with_reducible refine w_eqI ?_ | with_reducible refine w_neI ?_ | with_reducible refine w_eqT ?_ | with_reducible refine w_neT ?_ | with_reducible refine w_inS ?_ | with_reducible refine w_ninS ?_
  | with_reducible refine w_absI ?_ | with_reducible refine w_intI ?_ | with_reducible refine w_maxI ?_ | with_reducible refine w_minI ?_
  | with_reducible refine w_for ?_ | with_reducible refine w_iR1 ?_ | with_reducible refine w_iR2 ?_ | with_reducible refine w_iStr ?_ | with_reducible refine w_strI ?_ | with_reducible refine w_iList ?_ | with_reducible refine w_iTup ?_
  | with_reducible refine w_bm ?_ | with_reducible refine w_bm0 ?_ | with_reducible refine w_t ?_ | with_reducible refine w_f ?_ | with_reducible refine w_nt ?_ | with_reducible refine w_nx ?_ | with_reducible refine w_rt ?_ | with_reducible refine w_bk ?_ | with_reducible refine w_ct ?_ | with_reducible refine w_nf ?_ | with_reducible refine w_lc ?_ | with_reducible refine w_yes ?_ | with_reducible refine w_neg ?_))
local macro_rules | `(tactic| walk_at "w") => `(tactic| (repeat (first | walk_at "w1" | dsimp (config := { proj := false }) only [List.set_cons_zero, List.set_cons_succ])))
section
variable {w : World} {K : PySem.W.Frag} {mg : Str → Option Value} {base : Heap}

theorem SqL_same {K : PySem.W.Frag} {H H' : Hp} {a : Addr} {xs : List V} (h : SqL K H a xs) (e : Same H H') : SqL K H' a xs :=
  h.elim (fun h => .inl (h.elim (fun h => .inl (e _ _ h)) fun ⟨o, h⟩ => .inr ⟨o, e _ _ h⟩)) fun h => .inr h
def sp_law (K : PySem.W.Frag) : Sp := sp1 fun x H Q _ => ∃ (a : Addr) (ns : List Int), x = .ref a ∧ SqL K H a (ns.map V.int) ∧ ns.length ≤ 63 ∧ ∀ H', Q (.bl true) H'
theorem ok_law (T : Txt K mg) {fd : FuncData} (F : Fn_law K fd) (c_law_dice : CalX P w K mg base CX0 1 "_law_dice" (sp_law_dice K)) (c_law_round : CalX P w K mg base CX0 5 "_law_round" sp_law_round) : FnOk P w K mg base CX0 7 (He.ga K "law") fd ["script"] (sp_law K) := by
  refine F.ok sc_law (fun _ _ _ _ h => sp1_len h) (fun cdv A outer s H vs Q E hr h => ?_)
  obtain ⟨x0, rfl, h⟩ := h
  refine ⟨_, PSs.nox (pss_cons (ps_for PassesOwn.never rfl (pi_range1 (by rfl) T.f_range (pa_cons (pe_callB (call_minI rfl) (by rfl) T.f_min (by decide +kernel) (pa_cons pe_int (pa_cons (pe_callB (call_maxI rfl) (by rfl) T.f_max (by decide +kernel) (pa_cons pe_int (pa_cons (pe_callB call_lenQ (by rfl) T.f_len PySem.boot_len (pa_cons (pv 0) pa_nil)) pa_nil))) pa_nil))) pa_nil)) (pg_name (i := 1) sc_law.nd rfl (Or.inl rfl))
    (pss_one (ps_if (pt_not (pt_val (pe_cx c_law_round hr (by decide) rfl pass0 (pa_cons (pe_cx c_law_dice hr (by decide) rfl pass0 (pa_cons (pv 0) (pa_cons (pv 1) pa_nil))) pa_nil))))
    (pss_one (ps_ret pe_bl))
    pss_nil)))
    (pss_one (ps_ret pe_bl))), ?_⟩
  rw [show start ["script", "k"] [x0] = [some x0, none] from rfl]
  obtain ⟨a, ns, rfl, hS, hn, hQ⟩ := h
  try dsimp only [cxOf]
  walk_at "w"
  refine w_lenL hS ?_
  walk_at "w"
  rw [List.length_map]
  refine w_rg1 (by split <;> omega) (by split <;> omega) ?_
  refine for_range (fun i σ H' => Same H H' ∧ ∃ v, σ = [some (.ref a), v]) ⟨Same.refl _, _, rfl⟩ ?_ ?_
  · rintro i σ H' hi ⟨sm, v, rfl⟩
    have hi8 : i < 8 := by
      refine Nat.lt_of_lt_of_le hi ?_
      split <;> omega
    dsimp only [gName]
    walk_at "w"
    rw [show (0 : Int) + (i : Int) = (i : Int) by omega]
    refine ⟨_, _, rfl, a, ns, i, rfl, rfl, SqL_same hS sm, by omega, fun p H2 hD hp sm2 => ?_⟩
    walk_at "w"
    refine ⟨_, rfl, p, rfl, hD, fun H3 hD3 kb => ?_⟩
    walk_at "w"
    exact ⟨fun b o e => kb b o (ne_of_none (sm b o e) hp) (sm2 b o (sm b o e)), _, rfl⟩
  · rintro σ H' ⟨sm, v, rfl⟩
    walk_at "w"
    exact hQ _
end
theorem facts {w : World} {K : PySem.W.Frag} {h : Heap} {mg : Str → Option Value} {f : Addr} (X : K.In h) (G : h.Ns mainGlobals mg) (hfa : mg ("law" : Str) = some (.ref f)) (c : HallHd.SaysH fa fn hs ex K) :
    ∃ fd : FuncData, (∀ (s : Shared) (v : Value), BindsTo s fd ⟨[v], []⟩ [("script", v)]) ∧ ∀ base : Heap, K.In base → base.Ns mainGlobals mg → FnOk P w K mg base CX0 7 f fd ["script"] (sp_law K) := by
  have T := txt_of X G c
  obtain ⟨fdis_name, Fis_name⟩ := c.d.def_ 0 (d := dd "is_name" 9) rfl
  have mis_name := He.glo_ok X G (c.d.fact 0 (f := .glo "is_name") rfl)
  obtain ⟨fd_word_at, F_word_at⟩ := c.d.def_ 3 (d := dd "_word_at" 19) rfl
  have m_word_at := He.glo_ok X G (c.d.fact 3 (f := .glo "_word_at") rfl)
  obtain ⟨fd_token_at, F_token_at⟩ := c.d.def_ 2 (d := dd "_token_at" 18) rfl
  have m_token_at := He.glo_ok X G (c.d.fact 2 (f := .glo "_token_at") rfl)
  obtain ⟨fdtokens, Ftokens⟩ := c.d.def_ 1 (d := dd "tokens" 17) rfl
  have mtokens := He.glo_ok X G (c.d.fact 1 (f := .glo "tokens") rfl)
  obtain ⟨fd_law_dice, F_law_dice⟩ := c.d.def_ 4 (d := dd "_law_dice" 21) rfl
  have m_law_dice := He.glo_ok X G (c.d.fact 4 (f := .glo "_law_dice") rfl)
  obtain ⟨fd_law_draw, F_law_draw⟩ := c.d.def_ 5 (d := dd "_law_draw" 22) rfl
  have m_law_draw := He.glo_ok X G (c.d.fact 5 (f := .glo "_law_draw") rfl)
  obtain ⟨fd_law_name, F_law_name⟩ := c.d.def_ 6 (d := dd "_law_name" 23) rfl
  have m_law_name := He.glo_ok X G (c.d.fact 6 (f := .glo "_law_name") rfl)
  obtain ⟨fd_law_token, F_law_token⟩ := c.d.def_ 7 (d := dd "_law_token" 24) rfl
  have m_law_token := He.glo_ok X G (c.d.fact 7 (f := .glo "_law_token") rfl)
  obtain ⟨fd_law_bad, F_law_bad⟩ := c.d.def_ 8 (d := dd "_law_bad" 25) rfl
  have m_law_bad := He.glo_ok X G (c.d.fact 8 (f := .glo "_law_bad") rfl)
  obtain ⟨fd_law_sticks, F_law_sticks⟩ := c.d.def_ 9 (d := dd "_law_sticks" 26) rfl
  have m_law_sticks := He.glo_ok X G (c.d.fact 9 (f := .glo "_law_sticks") rfl)
  obtain ⟨fd_law_joined, F_law_joined⟩ := c.d.def_ 10 (d := dd "_law_joined" 27) rfl
  have m_law_joined := He.glo_ok X G (c.d.fact 10 (f := .glo "_law_joined") rfl)
  obtain ⟨fd_law_changed, F_law_changed⟩ := c.d.def_ 11 (d := dd "_law_changed" 28) rfl
  have m_law_changed := He.glo_ok X G (c.d.fact 11 (f := .glo "_law_changed") rfl)
  obtain ⟨fd_law_signs, F_law_signs⟩ := c.d.def_ 12 (d := dd "_law_signs" 29) rfl
  have m_law_signs := He.glo_ok X G (c.d.fact 12 (f := .glo "_law_signs") rfl)
  obtain ⟨fd_law_long, F_law_long⟩ := c.d.def_ 13 (d := dd "_law_long" 30) rfl
  have m_law_long := He.glo_ok X G (c.d.fact 13 (f := .glo "_law_long") rfl)
  obtain ⟨fd_law_size, F_law_size⟩ := c.d.def_ 14 (d := dd "_law_size" 31) rfl
  have m_law_size := He.glo_ok X G (c.d.fact 14 (f := .glo "_law_size") rfl)
  obtain ⟨fd_law_scan, F_law_scan⟩ := c.d.def_ 15 (d := dd "_law_scan" 32) rfl
  have m_law_scan := He.glo_ok X G (c.d.fact 15 (f := .glo "_law_scan") rfl)
  obtain ⟨fd_law_asked, F_law_asked⟩ := c.d.def_ 16 (d := dd "_law_asked" 33) rfl
  have m_law_asked := He.glo_ok X G (c.d.fact 16 (f := .glo "_law_asked") rfl)
  obtain ⟨fd_law_is_integer, F_law_is_integer⟩ := c.d.def_ 17 (d := dd "_law_is_integer" 34) rfl
  have m_law_is_integer := He.glo_ok X G (c.d.fact 17 (f := .glo "_law_is_integer") rfl)
  obtain ⟨fd_law_agrees, F_law_agrees⟩ := c.d.def_ 18 (d := dd "_law_agrees" 35) rfl
  have m_law_agrees := He.glo_ok X G (c.d.fact 18 (f := .glo "_law_agrees") rfl)
  obtain ⟨fd_law_round, F_law_round⟩ := c.d.def_ 19 (d := dd "_law_round" 36) rfl
  have m_law_round := He.glo_ok X G (c.d.fact 19 (f := .glo "_law_round") rfl)
  obtain ⟨fdlaw, Flaw⟩ := c.d.def_ 20 (d := dd "law" 37) rfl
  have mlaw := He.glo_ok X G (c.d.fact 20 (f := .glo "law") rfl)
  have e := hfa.symm.trans mlaw
  cases e
  have b := FunD.bindsA (ps := ["script"]) Flaw fun _ _ _ _ _ _ us hl => match us, hl with | [_], _ => rfl
  refine ⟨fdlaw, fun s v => b s [v] rfl, fun base _ _ => ?_⟩
  have cis_name := ok_is_name (w := w) (base := base) T Fis_name mis_name 
  have c_word_at := ok_word_at (w := w) (base := base) T F_word_at m_word_at 
  have c_token_at := ok_token_at (w := w) (base := base) T F_token_at m_token_at c_word_at cis_name
  have ctokens := ok_tokens (w := w) (base := base) T Ftokens mtokens c_token_at
  have c_law_dice := ok_law_dice (w := w) (base := base) T F_law_dice m_law_dice 
  have c_law_draw := ok_law_draw (w := w) (base := base) T F_law_draw m_law_draw 
  have c_law_name := ok_law_name (w := w) (base := base) T F_law_name m_law_name c_law_draw
  have c_law_token := ok_law_token (w := w) (base := base) T F_law_token m_law_token c_law_draw c_law_name
  have c_law_bad := ok_law_bad (w := w) (base := base) T F_law_bad m_law_bad c_law_draw c_law_name
  have c_law_sticks := ok_law_sticks (w := w) (base := base) T F_law_sticks m_law_sticks 
  have c_law_joined := ok_law_joined (w := w) (base := base) T F_law_joined m_law_joined c_law_draw c_law_sticks
  have c_law_changed := ok_law_changed (w := w) (base := base) T F_law_changed m_law_changed c_law_draw
  have c_law_signs := ok_law_signs (w := w) (base := base) T F_law_signs m_law_signs c_law_draw
  have c_law_long := ok_law_long (w := w) (base := base) T F_law_long m_law_long c_law_draw
  have c_law_size := ok_law_size (w := w) (base := base) T F_law_size m_law_size 
  have c_law_scan := ok_law_scan (w := w) (base := base) T F_law_scan m_law_scan c_law_size
  have c_law_asked := ok_law_asked (w := w) (base := base) T F_law_asked m_law_asked ctokens
  have c_law_is_integer := ok_law_is_integer (w := w) (base := base) T F_law_is_integer m_law_is_integer 
  have c_law_agrees := ok_law_agrees (w := w) (base := base) T F_law_agrees m_law_agrees c_law_is_integer
  have c_law_round := ok_law_round (w := w) (base := base) T F_law_round m_law_round c_law_draw c_law_token c_law_bad c_law_joined c_law_changed c_law_scan c_law_signs c_law_long c_law_agrees c_law_asked
  exact ok_law T Flaw c_law_dice c_law_round
end K12
open PySem PySem.W PySem.Calls PyProof.Rows
theorem PySem.Challenge.cw_lemmahall_k12_tokens_and_places_holds : PySem.Challenge.rw_lemmahall_k12_tokens_and_places.Holds := by
  w_on; o_law
  refine HandSHeadRun.head_any (r := OpenLaw.row PySem.Challenge.rw_lemmahall_k12_tokens_and_places) (q := view (OpenLaw.row PySem.Challenge.rw_lemmahall_k12_tokens_and_places).prog [37]) (H := K12.hk) (ob := K12.ob) (M := 2000) (loose := K12.loose) (d := HandSHeadRun.topDef (OpenLaw.row PySem.Challenge.rw_lemmahall_k12_tokens_and_places).prog 37) (kwd := []) K12.ob_eq
    (by kernel_rfl) (fun s => by kernel_rfl) K12.run (by kernel_rfl) (by kernel_rfl) (by kernel_rfl) (by rfl) (by first | assumption | decide +kernel) (by decide +kernel) ⟨rfl, rfl, rfl, rfl, rfl, by decide +kernel⟩ ?hw ?hc
  case hw => w_witness2
  case hc =>
    refine L2.walk_ofE (l := PySem.Challenge.rw_lemmahall_k12_tokens_and_places) (n := 63) (k := 7) (x := "script") (CX := L2.CX0) rfl (by decide) (by kernel_rfl) ⟨rfl, by decide, by decide⟩ ?F (fun _ _ _ _ z => z)
    intro w mg fa h Y G hmg0
    obtain ⟨K, KX, c⟩ := Y
    have hmg : mg ("law" : PySem.Str) = some (.ref fa) := by
      have e : (HandSHeadRun.topDef (OpenLaw.row PySem.Challenge.rw_lemmahall_k12_tokens_and_places).prog 37).name = ("law" : PySem.Str) := by kernel_rfl
      rw [← e]
      exact hmg0
    obtain ⟨fd, hb, hF⟩ := K12.facts (w := w) KX G hmg c
    exact ⟨K, fd, K12.sp_law K, KX, hb, fun H a ns hl _ hS => ⟨L2.V.ref a, rfl, a, ns, rfl, hS, hl, fun _ => rfl⟩, hF⟩
