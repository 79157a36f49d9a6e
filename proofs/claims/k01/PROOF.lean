import PyProof.Rows.All
import Wide.All
import OpenK.AllK
import Wide.FinOn
import PyProof.EqAt
import PyProof.EqKinds
import PyProof.TupleCall
import PyProof.FString
import KE.KExcSuper
import HandS.ForSpec
import HandS.Codes
import KE.KExcIs
import KE.KIsAll
import HandS.ExcField
import HandS.ExcIs
import HandS.TryMany
import PyProof.StrBlock2
import HandS.ForMost
import HandS.Defaults
import HandS.Flow
import HandS.IsInst
import HandS.Wide
import HandS.Evl
import HandS.Comp
import KE.KStateDown
import HandS.Head0
import HandS.Head1
import HandS.Head2
import HandS.HeadEnd
import HandS.HeadHook2
import HandS.HeadHook3
import HandS.Text
import HandS.StrMore
import HandS.SetFor
import HandS.More
import HandS.Dict
import PyProof.SeqRoads2
import PyProof.ReprRoads
import PySem.Challenge.RW_lemmahall_k01_substitution
import HandS.Style
import HandS.Star
import HandS.DictEq
import HandS.Small
import HandS.DictComp
import HandS.Iter
set_option Elab.async false
set_option linter.all false
set_option maxRecDepth 100000
set_option maxHeartbeats 4000000
/-! Exceptions of the program: classes over ValueError whose __init__ says super().__init__(text) and then stores its arguments. -/
namespace PySem
namespace HallX
open PySem.W PySem.Calls PyProof.Rows PySem.HandSPX
/-! ### the method-wrapper of ValueError.__init__ -/
section
variable {prog : Program} {w : World} {A : Around} {E : Value → Shared → Prop} {h : Heap} {g : Array GenState} {d : Drawn} {t : Nat} {os : OsState}
variable {nm q : Str} {C N : Addr} {bs bm : List Value} {sn : List Str} {sub : List Value} {ab : Bool} {col : Option Bool} {dd : Option Addr} {k0 k1 k2 k3 k5 : Option Value}
theorem call_bw {u e t0 : Addr} {rest : List Value} {Q : Value → Shared → Prop}
    (hC : h.get? C = some (excClassObj nm q C N bs bm true sn sub ab col dd k0 k1 k2 k3 k5 "ValueError.__new__")) (he : h.get? e = some (excO C t0)) (hu : h.get? u = some (kxs_mw "ValueError.__init__" e)) (hrest : rest.length ≤ sizeLine)
    (hq : ∀ h' t1, (∀ b o, b ≠ e → h.get? b = some o → h'.get? b = some o) → h'.get? e = some (excO C t1) → Q .none ⟨h', g, d, t, os⟩) :
    wpAny (model prog w) A (call (.ref u) rest) Q E ⟨h, g, d, t, os⟩ := by
  refine wpAny_call (codeAny_of_tree ?_)
  show wpAny _ A.in1 (callAny (.ref u) ⟨rest, []⟩) _ _ _
  simp only [callAny]
  refine wpAny_bind (wpAny_load hu ?_)
  simp only [kxs_mw, show (Value.type "method-wrapper" == Value.type "method" || Value.type "method-wrapper" == Value.type "builtin_function_or_method" || Value.type "method-wrapper" == Value.type "method-wrapper") = true by decide, if_true]
  refine KFB.if_so (by decide) ?_
  refine wpAny_bind (check_bound_init F.excBase_ValueError.toExcCallFacts hC he rfl ?_)
  refine wpAny_bind (wpAny_pure (wpAny_pure ?_))
  refine ⟨plainId_quiet F.excBase_ValueError.init.plain _, codeAny_builtin F.excBase_ValueError.initEntry ?_⟩
  exact exc_init_tree (cls := .ref C) (t0 := t0) (dv := none) (c2 := .none) (c3 := .none) (b4 := .bool false) he hrest fun h' k e' _ => hq h' h.objs.size k e'
end
/-! ### the class, as the top has written it -/
structure HallTxt (prog : Program) (K : Frag) (mg : Str → Option Value) (x : Str) (C fI cc cda : Addr) (qual : Str) (params : Arguments) (body : List Stmt) (scope : Scope) : Prop where
  gC : mg x = some (.ref C)
  cls : ∃ nm q N bs bm sn sub ab col dd k0 k1 k2 k3 k5, K.lookup C = some (excClassObj nm q C N bs bm true sn sub ab col dd k0 k1 k2 k3 k5 "ValueError.__new__") ∧ refsVE bm = true
  sup : ks_superIn K C C "__init__" = some (some (.builtin "ValueError.__init__"))
  sa : findIn K (.ref C) "__setattr__" = some (some (.builtin "object.__setattr__"))
  ga : findIn K (.ref C) "__getattribute__" = some (some (.builtin "BaseException.__getattribute__"))
  gg : findIn K (.ref C) "__getattr__" = some none
  iC : findIn K (.ref C) "__init__" = some (some (.ref fI))
  tI : typeIn K (.ref fI) = some (.type "function")
  kC : keepIn K (.ref C) = true
  exC : subIn K (.ref C) (.type "BaseException") = some true
  tyC : typeIn K (.ref C) = some (.type "type")
  hdC : hasDictIn K C = true
  ve : subIn K (.ref C) (.type "ValueError") = some true
  self : mroIn K C (.ref C) = some true
  fn : ∃ oc od dV kV doc pm an ct osl, K.lookup fI = some ⟨oc, od, .func (ksFn "__init__" qual params body scope dV kV doc pm an (.ref cda) ct cc), osl⟩ ∧ codeIn K (.ref cda) qual = true ∧ dV = Value.none
  code : ∃ ccl cdd vs ccs tf, K.lookup cda = some ⟨ccl, cdd, .fields vs, ccs⟩ ∧ vs[2]? = some (.str prog.main.file tf)
  cell : ∃ cl cld csl, K.lookup cc = some ⟨cl, cld, .cell (some (.ref C)), csl⟩
  stat : nsIn K cStatics "thirdparty.any" = some none
  sup0 : mg "super" = none
  top0 : (prog.main.scope.names.lookup ("super" : Str)).isSome = false
/-- a message: a text is made, nothing else happens -/
def MsgOk (prog : Program) (w : World) (env : Env) (L : Addr) (m : Str → Option Value) (e : Expr) : Prop :=
  ∀ (A : Around) (E : Value → Shared → Prop) (s : Shared) (Q : Value → Shared → Prop), s.heap.Ns L m → (∀ z tk tk', Q (.str z tk) { s with toks := tk' }) → wpAny (model prog w) A (eval e env) Q E s
section
variable {prog : Program} {w : World} {A : Around} {E : Value → Shared → Prop} {R : Result → Shared → Prop} {s : Shared} {K : Frag} {mg mb : Str → Option Value} {x : Str} {C fI cc cda : Addr} {qual : Str} {params : Arguments} {body : List Stmt} {scope : Scope}
theorem msg_const {env : Env} {L : Addr} {m : Str → Option Value} {z : Str} {j} {pos : Pos} : MsgOk prog w env L m (.Constant (.str z) j pos) := fun A E s Q _ h => Calls.Constant_str (h z _ _)
theorem ldv {env : Env} {L : Addr} {m : Str → Option Value} {y : Str} {pos : Pos} {v : Value} {Q : Value → Shared → Prop} (hn : s.heap.Ns L m) (hL : env.locals = L) (hv : m y = some v) (h : Q v s)
    (hk : env.scope.kind = .function) (hl : env.kindOf y = some .local) (hd : (y == ("__debug__" : Str)) = false) : wpAny (model prog w) A (eval (.Name y pos) env) Q E s := by
  subst hL
  exact wpAny_Name (wpAny_loadName_local hk hl hn hv h) hd
theorem evalEach_nil (env : Env) : evalEach [] env = [] := by first | rfl | simp [evalEach]
theorem evalEach_cons (e : Expr) (es : List Expr) (env : Env) : evalEach (e :: es) env = eval e env :: evalEach es env := by first | rfl | simp [evalEach]
/-- f"text{y}" -/
theorem msg_f2 {env : Env} {L : Addr} {m : Str → Option Value} {z y : Str} {j} {p1 p2 p3 pos : Pos} {i : Int} {ti : Tok} (hL : env.locals = L) (hv : m y = some (.int i ti)) (hi : i.natAbs.log2 < 1920) (hz : z.length + (toString i : Str).length ≤ sizeLine)
    (hk : env.scope.kind = .function) (hl : env.kindOf y = some .local) (hd : (y == ("__debug__" : Str)) = false) :
    MsgOk prog w env L m (.JoinedStr [.Constant (.str z) j p1, .FormattedValue (.Name y p2) (-1) none p3] pos) := fun A E s Q hn h => by
  refine wpAny_JoinedStr ?_
  rw [evalEach_cons, evalEach_cons, evalEach_nil]
  have e0 : (Str.empty ++ z) = z := by
    obtain ⟨a⟩ := z
    show (⟨#[] ++ a⟩ : Str) = ⟨a⟩
    simp
  refine Calls.Constant_str ⟨z, _, rfl, ?_, ?_⟩
  · rw [e0]; omega
  · rw [e0]
    refine wpAny_FormattedValue_plain (ldv (s := { s with toks := s.toks + 1 }) hn hL hv ?_ hk hl hd)
    refine wpAny_formatField_int hi ⟨_, _, rfl, ?_, ?_, ?_⟩
    · rw [Str.length_append]; exact hz
    · rw [Str.length_append]; exact hz
    · exact h _ _ _
/-- what super().__init__(msg) leaves -/
theorem super_init {pl : Sem Bool} {e t0 L : Addr} {m : Str → Option Value} {msg : Expr} {p0 p1 p2 p3 p4 : Pos} {Q : Flow → Shared → Prop} {ar : Arg} (T : HallTxt prog K mg x C fI cc cda qual params body scope)
    (X : K.In s.heap) (G : s.heap.Ns mainGlobals mg) (Gb : s.heap.Ns builtinsNs mb) (hb : mb "super" = some (.type "super")) (hn : s.heap.Ns L m) (he : s.heap.get? e = some (excO C t0)) (hne : K.lookup e = none)
    (har : (params.posonlyargs ++ params.args).head? = some ar) (hself : m ar.arg = some (.ref e))
    (hks : scope.names.lookup ("super" : Str) = some .globalImplicit) (hkc : scope.names.lookup ("__class__" : Str) = some .free) (hka : scope.names.lookup ar.arg = some .local) (hk : scope.kind = .function)
    (hm : MsgOk prog w (ksEnv qual scope L fI (.ref cda) cc) L m msg)
    (hst : starEach [msg] (ksEnv qual scope L fI (.ref cda) cc) = [(false, eval msg (ksEnv qual scope L fI (.ref cda) cc))])
    (hev : eval (.Call (.Attribute (.Call (.Name "super" p0) [] [] p1) "__init__" p2) [msg] [] p3) (ksEnv qual scope L fI (.ref cda) cc) = (do
      let ov ← attributeBase (.Call (.Name "super" p0) [] [] p1) "__init__" (ksEnv qual scope L fI (.ref cda) cc) (eval (.Call (.Name "super" p0) [] [] p1) (ksEnv qual scope L fI (.ref cda) cc))
      standAt p2.atName
      let (f, first) ← holding [ov] (getMethod ov "__init__" pl)
      callWith p3 f first (backTo p3 (starEach [msg] (ksEnv qual scope L fI (.ref cda) cc))) []))
    (hq : ∀ h' tk t1, (∀ b o, b ≠ e → s.heap.get? b = some o → h'.get? b = some o) → h'.get? e = some (excO C t1) → Q .next { s with heap := h', toks := tk }) :
    _root_.PySem.wpAt (model prog w) A (.func body (ksEnv qual scope L fI (.ref cda) cc)) (exec (.Expr (.Call (.Attribute (.Call (.Name "super" p0) [] [] p1) "__init__" p2) [msg] [] p3) p4) (ksEnv qual scope L fI (.ref cda) cc)) Q E s := by
  obtain ⟨hh, g, d, t, os⟩ := s
  obtain ⟨nm, q, N, bs, bm, sn, sub, ab, col, dd, k0, k1, k2, k3, k5, hC, hbm⟩ := T.cls
  obtain ⟨oc, od, dV, kV, doc, pm, an, ct, osl, hf, hcd, _⟩ := T.fn
  obtain ⟨ccl, cdd, vs, ccs, tf, hcode, hvs⟩ := T.code
  obtain ⟨cl, cld, csl, hcell⟩ := T.cell
  have hcl : clsIn K C = some { name := nm, bases := bs, mro := .ref C :: bm, ns := N, qualname := q, hasDict := true, slotNames := sn, subclasses := sub, abstract := ab, collection := col, hasDel := false } := by unfold clsIn; rw [hC] <;> rfl
  have eC : e ≠ C := fun z => by rw [z, hC] at hne; cases hne
  have hint : interactive (ksEnv qual scope L fI (.ref cda) cc) = false := by
    show (scope.kind == .module && _) = false
    rw [hk] <;> rfl
  refine ks_wpAt_Expr_any (ks_wpAt_MethodCall (pl := pl) ?_ hev) hint rfl
  · refine ks_wpAt_super_base (env := ksEnv qual scope L fI (.ref cda) cc) hks hkc (by decide) rfl (X _ _ hf) rfl har rfl (X _ _ hcode) rfl hvs (by simp) T.top0 ?_
    refine ks_loadName_global hk hks (loadGlobal_builtin (env := ksEnv qual scope L fI (.ref cda) cc) G T.sup0 Gb hb ⟨rfl, ?_⟩)
    refine wpAny_loadName_free hk hkc rfl ⟨_, X _ _ hcell, rfl⟩ ?_
    refine wpAny_loadName_local hk hka hn hself ?_
    refine ks_wpAny_isType_cls (X _ _ hC) rfl ⟨rfl, ?_⟩
    refine ks_wpAny_call_super (X _ _ hC) rfl he rfl (fun c z => by cases z) (looks_mroIn X T.self) (fun h1 hso k1' => ?_)
    have X1 : K.In h1 := X.keeps k1'
    have he1 := k1' _ _ he
    have hmro : Looks (model prog w) h1 (mroOf (.ref C)) (.ref C :: bm) := fun A Q E s k q => wpAny_bind ((looks_clsIn X1 hcl) A _ E s k (wpAny_pure q))
    have hsup : alongIn K "__init__" (((Value.ref C :: bm).dropWhile (· != .ref C)).drop 1) = some (some (.builtin "ValueError.__init__")) := by
      have z := T.sup
      unfold ks_superIn at z
      rw [hcl] at z
      exact z
    have I1 : InstAt h1 e (excO C t0) C none := ⟨he1, rfl, rfl, trivial⟩
    refine kxs_getMethod kxs_ValueError hso (looks_opaque X1 T.stat) hmro rfl X1 hsup (I1.type.andThen (looks_subIn X1 T.ve)) eC (by decide) ?_
    have hu : (h1.push (kxs_mw "ValueError.__init__" e)).get? h1.objs.size = some (kxs_mw "ValueError.__init__" e) := Heap.get?_push_at rfl rfl
    have k2' : ∀ b o, hh.get? b = some o → (h1.push (kxs_mw "ValueError.__init__" e)).get? b = some o := fun b o z => Heap.get?_push_of_some _ (k1' b o z)
    refine kxs_callWith (i := "ValueError.__init__") (x := e) (by rw [hst] <;> rfl) ?_
    rw [hst]
    refine evalArgs_plain ?_
    show wpAny _ _ (spliced [(false, eval msg (ksEnv qual scope L fI (.ref cda) cc))]) _ _ _
    refine Calls.spliced_cons (hm _ _ ⟨h1.push (kxs_mw "ValueError.__init__" e), g, d, t + 1, os⟩ _ (hn.keeps k2') (fun z tk tk' => ?_))
    refine Calls.spliced_nil ⟨hu, ?_⟩
    refine call_bw (X1.keeps (fun b o z => Heap.get?_push_of_some _ z) _ _ hC) (k2' _ _ he) hu (by show 1 ≤ sizeLine; rw [sizeLine_eq]; decide) (fun h' t1 k3' e' => ?_)
    exact hq h' _ t1 (fun b o hbe ho => k3' b o hbe (k2' b o ho)) e'
/-- what __init__ leaves of a fresh exception at e -/
structure InitEnd (h h' : Heap) (e C dx : Addr) (y : Str) (v : Value) : Prop where
  keep : ∀ b o, b ≠ e → h.get? b = some o → h'.get? b = some o
  obj : ∃ t1, h'.get? e = some { cls := .ref C, dict := some dx, data := .fields #[.ref t1, .none, .none, .none, .bool false, .none] }
  dbig : h.objs.size ≤ dx
  dne : dx ≠ e
  ns : h'.Ns1 dx (fun z => if z = y then some v else none)
/-- a made exception -/
structure OwnMade (h h' : Heap) (e C d : Addr) (y : Str) (v : Value) : Prop where
  keep : ∀ b o, h.get? b = some o → h'.get? b = some o
  new : h.objs.size ≤ e
  obj : ∃ oe vs, h'.get? e = some oe ∧ oe.cls = .ref C ∧ oe.dict = some d ∧ oe.data = .fields vs ∧ vs[1]? = some .none
  dbig : h.objs.size ≤ d
  dne : d ≠ e
  ns : h'.Ns1 d (fun z => if z = y then some v else none)
/-- __init__(self, y): super().__init__(msg); self.y = y -/
structure Init1 (prog : Program) (w : World) (y : Str) (ok : Value → Prop) (qual : Str) (params : Arguments) (body : List Stmt) (scope : Scope) : Prop where
  head : ∃ a1 : Arg, a1.arg = "self" ∧ (params.posonlyargs ++ params.args).head? = some a1
  bind : ∀ (kV doc pm : Value) (an : Option Addr) (cdv ct : Value) (cc : Addr) (u v : Value), bindArgs (ksFn "__init__" qual params body scope .none kV doc pm an cdv ct cc) ⟨[u, v], []⟩ = pure [(("self" : Str), u), (y, v)]
  bd : ∃ (p0 p1 p2 p3 p4 q1 q2 q3 q4 : Pos) (msg : Expr) (pl : Sem Bool), body = [.Expr (.Call (.Attribute (.Call (.Name "super" p0) [] [] p1) "__init__" p2) [msg] [] p3) p4, .Assign [.Attribute (.Name "self" q1) y q2] (.Name y q3) q4] ∧
    (∀ (L fI cc : Addr) (cd : Value) (m : Str → Option Value) (v : Value), m y = some v → ok v → MsgOk prog w (ksEnv qual scope L fI cd cc) L m msg) ∧
    (∀ (env : Env), env.scope = scope → starEach [msg] env = [(false, eval msg env)]) ∧
    (∀ (env : Env), env.scope = scope → eval (.Call (.Attribute (.Call (.Name "super" p0) [] [] p1) "__init__" p2) [msg] [] p3) env = (do
      let ov ← attributeBase (.Call (.Name "super" p0) [] [] p1) "__init__" env (eval (.Call (.Name "super" p0) [] [] p1) env)
      standAt p2.atName
      let (f, first) ← holding [ov] (getMethod ov "__init__" pl)
      callWith p3 f first (backTo p3 (starEach [msg] env)) []))
  hys : (y == ("self" : Str)) = false
  hyd : (y == ("__debug__" : Str)) = false
  hks : scope.names.lookup ("super" : Str) = some .globalImplicit
  hkc : scope.names.lookup ("__class__" : Str) = some .free
  hka : scope.names.lookup ("self" : Str) = some .local
  hky : scope.names.lookup y = some .local
  hk : scope.kind = .function
  hco : scope.isCoroutine = false
  hgen : scope.isGenerator = false
  hcell : ∀ x ∈ scope.names, x.2 ≠ .cell
theorem hall_init {e t0 : Addr} {v : Value} {y : Str} {ok : Value → Prop} (T : HallTxt prog K mg x C fI cc cda qual params body scope) (I : Init1 prog w y ok qual params body scope) (no : findIn K (.ref C) y = some none)
    (X : K.In s.heap) (G : s.heap.Ns mainGlobals mg) (Gb : s.heap.Ns builtinsNs mb) (hb : mb "super" = some (.type "super")) (hlim : s.heap.NoLimit) (he : s.heap.get? e = some (excO C t0)) (hne : K.lookup e = none)
    (hroom : A.depth < recursionLimit) (hv : ok v)
    (hq : ∀ h' tk dx, InitEnd s.heap h' e C dx y v → R (.ok (.ret .none)) { s with heap := h', toks := tk }) :
    codeAny (model prog w) A (.call (.ref fI) ⟨[.ref e, v], []⟩) R s := by
  obtain ⟨nm, q, N, bs, bm, sn, sub, ab, col, dd, k0, k1, k2, k3, k5, hC, hbm⟩ := T.cls
  obtain ⟨oc, od, dV, kV, doc, pm, an, ct, osl, hf, hcd, hdv⟩ := T.fn
  obtain ⟨p0, p1, p2, p3, p4, q1, q2, q3, q4, msg, pl, rfl, hm, hst, hev⟩ := I.bd
  have hcl : clsIn K C = some { name := nm, bases := bs, mro := .ref C :: bm, ns := N, qualname := q, hasDict := true, slotNames := sn, subclasses := sub, abstract := ab, collection := col, hasDel := false } := by unfold clsIn; rw [hC] <;> rfl
  refine ks_codeAny_call_defAt (body := _) (binds := [(("self" : Str), .ref e), (y, v)]) hroom (X _ _ hf) rfl hlim (codeRec_of X hcd) rfl (by subst hdv; exact BindsTo.of_eq (I.bind _ _ _ _ _ _ _ _ _)) I.hcell (fun z hz => ?_) (fun h₁ hns hk₁ => ?_) I.hco I.hgen I.hk
  · rcases List.mem_cons.mp hz with rfl | hz
    · exact I.hka
    rcases List.mem_cons.mp hz with rfl | hz
    · exact I.hky
    · cases hz
  · show _root_.PySem.wpAt (model prog w) _ (.func _ (ksEnv qual scope s.heap.objs.size fI (.ref cda) cc)) (execs _ (ksEnv qual scope s.heap.objs.size fI (.ref cda) cc)) _ _ _
    have my : (fun z => ([(("self" : Str), Value.ref e), (y, v)] : List (Str × Value)).reverse.lookup z) y = some v := by
      show List.lookup y ([(y, v), (("self" : Str), Value.ref e)] : List (Str × Value)) = some v
      simp [List.lookup]
    have ms : (fun z => ([(("self" : Str), Value.ref e), (y, v)] : List (Str × Value)).reverse.lookup z) "self" = some (.ref e) := by
      show List.lookup ("self" : Str) ([(y, v), (("self" : Str), Value.ref e)] : List (Str × Value)) = some (.ref e)
      have z : (("self" : Str) == y) = false := by
        have z := I.hys
        rw [beq_eq_false_iff_ne] at z ⊢
        exact fun w => z w.symm
      simp [List.lookup, z]
    have eL : s.heap.objs.size ≠ e := Nat.ne_of_gt (Heap.lt_size he)
    obtain ⟨a1, ha1, hpar⟩ := I.head
    refine ks_wpAt_execs_cons (super_init (t0 := t0) (mb := mb) (pl := pl) (ar := a1) T (X.keeps hk₁) (G.keeps hk₁) (Gb.keeps hk₁) hb hns (hk₁ _ _ he) hne hpar (by rw [ha1]; exact ms) I.hks I.hkc (by rw [ha1]; exact I.hka) I.hk
      (hm _ _ _ _ _ v my hv) (hst _ rfl) (hev _ rfl) (fun h' tk t1 k' e' => ?_))
    have X' : K.In h' := fun a o z => by
      have hae : a ≠ e := fun w => by rw [w, hne] at z; cases z
      exact k' a o hae (hk₁ _ _ (X a o z))
    have hns' : h'.Ns s.heap.objs.size (fun z => ([(("self" : Str), Value.ref e), (y, v)] : List (Str × Value)).reverse.lookup z) := hns.at fun o z => k' _ o eL z
    refine _root_.PySem.wpAt_of_wpAny ?_
    show wpAny _ _ (execs [_] _) _ _ _
    refine wpAny_execs_cons (plainObj_wpAny_Assign_Attribute ?_)
    refine ldv hns' rfl my (ldv hns' rfl ms ?_ I.hk I.hka (by decide)) I.hk I.hky I.hyd
    refine set_plain X' (ox := excO C t1) (od := none) ⟨e', rfl, rfl, trivial⟩ T.sa ?_
    refine exc_osa X' e' hcl (show refsVE (.ref C :: bm) = true from hbm) rfl no (fun h₃ tk₃ dx k₃ dn dne hx₃ hn₃ => ?_)
    show wpAny _ _ (execs _ _) _ _ _
    have z : s.heap.objs.size ≤ dx := by
      have z1 : s.heap.objs.size < h'.objs.size := hns'.lt
      have z2 : h'.objs.size ≤ dx := dn
      exact Nat.le_of_lt (Nat.lt_of_lt_of_le z1 z2)
    exact wpAny_execs_nil (hq h₃ tk₃ dx ⟨fun b o hbe z => k₃ b o hbe (k' b o hbe (hk₁ b o z)), ⟨t1, hx₃⟩, z, dne, hn₃⟩)
theorem hall_made {v : Value} {y : Str} {ok : Value → Prop} (T : HallTxt prog K mg x C fI cc cda qual params body scope) (I : Init1 prog w y ok qual params body scope) (no : findIn K (.ref C) y = some none)
    (X : K.In s.heap) (G : s.heap.Ns mainGlobals mg) (Gb : s.heap.Ns builtinsNs mb) (hb : mb "super" = some (.type "super")) (hlim : s.heap.NoLimit) (hroom : A.depth + 1 < recursionLimit) (hv : ok v)
    (hq : ∀ h' tk e d, OwnMade s.heap h' e C d y v → R (.ok (.ret (.ref e))) { s with heap := h', toks := tk }) :
    codeAny (model prog w) A (.call (.ref C) ⟨[v], []⟩) R s := by
  obtain ⟨nm, q, N, bs, bm, sn, sub, ab, col, dd, k0, k1, k2, k3, k5, hC, hbm⟩ := T.cls
  obtain ⟨hp, g, dr, tk, os⟩ := s
  have k : ∀ b o, hp.get? b = some o → ((hp.push (kdv_tup [v])).push (excO C hp.objs.size)).get? b = some o := fun b o e => Heap.get?_push_of_some _ (Heap.get?_push_of_some _ e)
  have hget : ((hp.push (kdv_tup [v])).push (excO C hp.objs.size)).get? (hp.objs.size + 1) = some (excO C hp.objs.size) := by heap_get
  have hnx : K.lookup (hp.objs.size + 1) = none := by
    cases e : K.lookup (hp.objs.size + 1) with
    | none => rfl
    | some o =>
      have z : hp.get? (hp.objs.size + 1) = some o := X _ _ e
      exact absurd (Nat.lt_of_succ_lt (Heap.lt_size z)) (Nat.lt_irrefl _)
  refine call_own F.excBase_ValueError (fun X => refsVE_contains X bm hbm) (X _ _ hC) (looks_findIn X T.iC) (fun self => bind_fn X self T.tI) (by show 1 ≤ sizeLine; rw [sizeLine_eq]; decide) ?_
  refine hall_init (s := ⟨(hp.push (kdv_tup [v])).push (excO C hp.objs.size), g, dr, tk, os⟩) T I no (X.keeps k) (G.keeps k) (Gb.keeps k) hb (hlim.keeps k) hget hnx ?_ hv fun h' tk' dx ⟨k', hx, dn, dne, hns⟩ => ?_
  · show A.depth + 1 < recursionLimit
    exact hroom
  · have old : ∀ b o, hp.get? b = some o → h'.get? b = some o := fun b o e => k' b o (Nat.ne_of_lt (Nat.lt_succ_of_lt (Heap.lt_size e))) (k b o e)
    have z : hp.objs.size + 1 + 1 ≤ dx := by
      first
        | (simpa only [Heap.size_push] using dn)
        | exact dn
        | (have q := dn; rw [Heap.size_push, Heap.size_push] at q; exact q)
    obtain ⟨t1, hx⟩ := hx
    exact ⟨rfl, hq h' tk' (hp.objs.size + 1) dx ⟨old, Nat.le_succ _, ⟨_, _, hx, rfl, rfl, rfl, rfl⟩, Nat.le_trans (Nat.le_trans (Nat.le_succ _) (Nat.le_succ _)) z, dne, hns⟩⟩
end
end HallX
end PySem
namespace L2
open PySem PySem.Spec PyProof.Rows PySem.HallX
theorem relO_one {v : V} {v' : Value} (r : RelV v v') (y f : Str) : RelO (List.lookup f [(y, v)]) (if f = y then some v' else none) := by
  by_cases hw : f = y
  · subst hw
    rw [if_pos rfl]
    have q : List.lookup f [(f, v)] = some v := by simp [List.lookup]
    rw [q]
    exact r
  · rw [if_neg hw]
    have qw : (f == y) = false := by simpa using hw
    have q2 : List.lookup f [(y, v)] = none := by simp [List.lookup, qw]
    rw [q2]
    trivial
theorem boot_super : bootBuiltins "super" = some (.type "super") := by first | rfl | kernel_rfl | decide +kernel
section
variable {X : Cx} {x y qual : Str} {C fI cc cda : Addr} {params : Arguments} {body : List Stmt} {scope : Scope}
/-- C(e) -/
def tMkH (C : Addr) (y : Str) (okV : V → Prop) (ta : TA) : St → Hp → XK → Prop := fun σ H Q => ta σ H fun vs H1 => ∃ v, vs = [v] ∧ okV v ∧ ∀ d, H1 d = none → Q (.ref C) (some d) (upd H1 d (.xd [(y, v)]))
theorem pmk_hall {a : Expr} {ta : TA} {p pos : Pos} {k : Nat} {ok : Value → Prop} {okV : V → Prop} (T : HallTxt X.prog X.K X.mg x C fI cc cda qual params body scope) (J : Init1 X.prog X.w y ok qual params body scope) (no : PySem.W.findIn X.K (.ref C) y = some none)
    (hok : ∀ v u, RelV v u → okV v → ok u) (hr : Room k X.A) (ha : PA X [a] ta) (hg : Gl X x) (hd : (x == ("__debug__" : Str)) = false := by decide)
    (he : starEach (a :: []) X.env = (false, eval a X.env) :: starEach [] X.env := by rfl) (hpl : (backTo pos (starEach [] X.env)).any (·.1) = false := by rfl) :
    PMk X (.Call (.Name x p) [a] [] pos) (tMkH C y okV ta) := by
  intro pins s σ H Q I h
  refine wpAny_Call_Name_kw (ld_glob I hg T.gC ?_ hd)
  refine PySem.W.callWith_K (h₀ := X.base) I.ok.mod.kin T.kC (thn (ha.run pos pins s σ H _ I h) fun us s1 hh => ?_) he hpl
  obtain ⟨vs, H1, I1, r1, v, ev, hov, q1⟩ := hh
  subst ev
  refine ⟨I1.kIn, ?_⟩
  cases r1 with
  | cons rv rn =>
    rename_i v' us'
    cases rn
    show wpAny _ _ (call (.ref C) [v']) _ _ _
    have hlim := I1.nolimit
    obtain ⟨mb, hb1, hb2⟩ := I1.mod.blt
    have G := I1.mod.glob.keeps I1.bk
    have Gb := hb1.keeps I1.bk
    have hb : mb "super" = some (.type "super") := (hb2 "super" (by decide)).trans boot_super
    have hkin := I1.kIn
    obtain ⟨hp, g, dr, tk, os⟩ := s1
    refine wpAny_call (hall_made (mb := mb) T J no hkin G Gb hb hlim (by have := hr.dp; omega) (hok _ _ rv hov) fun h' tk' e d M => ?_)
    show MkP X pins σ Q (.ref e) ⟨h', g, dr, tk', os⟩
    obtain ⟨oe, fv, hoe, hc, hd, hdat, h1⟩ := M.obj
    have hns := M.ns
    obtain ⟨G', g1, g2⟩ := restrict h' fun b => decide (b ≠ e)
    have gk : ∀ b, b ≠ e → G'.get? b = h'.get? b := fun b hb => g1 b (decide_eq_true hb)
    have ge : G'.get? e = none := g2 e (by simp)
    have old : ∀ b o, hp.get? b = some o → G'.get? b = some o := fun b o q => (gk b (Nat.ne_of_lt (Nat.lt_of_lt_of_le (Heap.lt_size q) M.new))).trans (M.keep b o q)
    have ob : ObjOk X.prog X.w (upd H1 d (.xd [(y, v)])) G' d (.xd [(y, v)]) :=
      ⟨_, hns.at (fun o q => (gk d M.dne).trans q), fun f => relO_one rv y f⟩
    have J : Inv X pins σ (upd H1 d (.xd [(y, v)])) ⟨G', g, dr, tk', os⟩ := I1.laid (t' := tk') old M.dbig ob
    refine ⟨e, oe, fv, ⟨G', g, dr, tk', os⟩, _, .ref C, some d, rfl, J, fun b o q => ?_, ge, hoe, ⟨hc, hd⟩, hdat, h1, ?_, rfl, I1.bare, raises_own T.exC T.tyC, q1 d (I1.hok.fresh M.dbig)⟩
    · by_cases hb : b = e
      · have q' : G'.get? b = some o := q
        rw [hb, ge] at q'; cases q'
      · exact (gk b hb).symm.trans q
    · rw [upd_ne (Ne.symm M.dne)]
      exact I1.hok.fresh M.new
/-- raise C(e) -/
def tRaiseH (C : Addr) (y : Str) (okV : V → Prop) (W : WX) (ta : TA) : TS := fun _ σ H => tMkH C y okV ta σ H fun cls d H' => W cls d σ H'
theorem ps_raiseH {a : Expr} {ta : TA} {W : WX} {p pos pos2 : Pos} {k : Nat} {ok : Value → Prop} {okV : V → Prop} (hc : X.calm = true) (T : HallTxt X.prog X.K X.mg x C fI cc cda qual params body scope) (J : Init1 X.prog X.w y ok qual params body scope) (no : PySem.W.findIn X.K (.ref C) y = some none)
    (hok : ∀ v u, RelV v u → okV v → ok u) (hr : Room k X.A) (tk : Takes X W) (ha : PA X [a] ta) (hg : Gl X x) (hd : (x == ("__debug__" : Str)) = false := by decide)
    (he : starEach (a :: []) X.env = (false, eval a X.env) :: starEach [] X.env := by rfl) (hpl : (backTo pos (starEach [] X.env)).any (·.1) = false := by rfl) :
    PS X (.Raise (some (.Call (.Name x p) [a] [] pos)) none pos2) (tRaiseH C y okV W ta) := ps_raise hc tk (pmk_hall T J no hok hr ha hg hd he hpl)
end
end L2

/-! several except clauses, with and without a name; isinstance of a caught error that has its dict -/
namespace L2
open PySem PySem.Spec PyProof.Rows
abbrev Clz : Type := Value × Option Nat × (Addr → Value → Option Addr → TS)
/-- behind a suite the name is unbound -/
def endsAs (i : Nat) (D : Ends) : Ends := { nx := fun σ H => D.nx (σ.set i none) H, rt := D.rt, bk := fun σ H => D.bk (σ.set i none) H, ct := fun σ H => D.ct (σ.set i none) H }
def wManyA (K : PySem.W.Frag) (Wout : WX) (D : Ends) : List Clz → WX
  | [] => Wout
  | (c, none, ts) :: r => fun cls d σ H => ∃ b, PySem.W.exmOne K cls c = some b ∧ (b = true → ∀ a, H a = none → ts a cls d D σ H) ∧ (b = false → wManyA K Wout D r cls d σ H)
  | (c, some i, ts) :: r => fun cls d σ H => ∃ b, PySem.W.exmOne K cls c = some b ∧ (b = true → ∀ a, H a = none → ts a cls d (endsAs i D) (σ.set i (some (.ref a))) H) ∧ (b = false → wManyA K Wout D r cls d σ H)
inductive HdsA (X : Cx) : List ExceptHandler → List Clz → Prop
  | nil : HdsA X [] []
  | bare {x : Str} {c : Value} {ts : Addr → Value → Option Addr → TS} {b₀ : Stmt} {suite : List Stmt} {np pos' : Pos} {hds : List ExceptHandler} {l : List Clz} (hc : Names X x c)
      (hsu : ∀ (a : Addr) (oe : Obj) (cls : Value) (d : Option Addr) (pn : List (Addr × Obj)), Zc cls d oe → (∃ vs, oe.data = .fields vs) → PSs (X.suite a ((a, oe) :: pn)) (b₀ :: suite) (ts a cls d)) (r : HdsA X hds l) :
      HdsA X (.ExceptHandler (some (.Name x np)) none (b₀ :: suite) pos' :: hds) ((c, none, ts) :: l)
  | as_ {x n : Str} {i : Nat} {c : Value} {ts : Addr → Value → Option Addr → TS} {b₀ : Stmt} {suite : List Stmt} {np pos' : Pos} {hds : List ExceptHandler} {l : List Clz} (hN : X.N.Nodup) (hi : X.N[i]? = some n) (hln : X.env.kindOf n = some .local) (hc : Names X x c)
      (hsu : ∀ (a : Addr) (oe : Obj) (cls : Value) (d : Option Addr) (pn : List (Addr × Obj)), Zc cls d oe → (∃ vs, oe.data = .fields vs) → PSs (X.suite a ((a, oe) :: pn)) (b₀ :: suite) (ts a cls d)) (r : HdsA X hds l) :
      HdsA X (.ExceptHandler (some (.Name x np)) (some n) (b₀ :: suite) pos' :: hds) ((c, some i, ts) :: l)
section
variable {X : Cx} {body : List Stmt} {h₀ : ExceptHandler} {hds : List ExceptHandler} {l : List Clz} {pos : Pos} {tb : WX → TS} {Wout : WX}
theorem ps_try_manyA (hs : X.stack = X.env :: X.outer) (hf : X.env.frame = some X.env.locals) (tk : Takes X Wout)
    (hb : ∀ (W : WX) (pn : List (Addr × Obj)) (xe : Value → Shared → Prop), Takes (X.tr pn xe) W → PassesOwn (model X.prog X.w) X.A X.env xe → PSs (X.tr pn xe) body (tb W))
    (hh : HdsA X (h₀ :: hds) l) : PS X (.Try body (h₀ :: hds) [] [] pos) (fun D σ H => tb (wManyA X.K Wout D l) D σ H) := by
  refine ⟨fun pins s σ H D I h => ?_⟩
  have ok := I.ok
  have hfr : X.A.frames = some (X.env :: X.outer) := by rw [ok.frames, hs]
  refine wpAny_Try_except ?_
  refine wpAny_mono ((hb (wManyA X.K Wout D l) (X.pn ++ pins) (fun e s₁ => wpAny (model X.prog X.w) X.A (noteFrame e X.env) (fun _ s₂ => wpAny (model X.prog X.w) X.A (setFlight e none) (fun _ s₃ =>
    wpAny (model X.prog X.w) X.A (handleBy e X.env (h₀ :: hds)) (SP X pins D) X.xe s₃) X.xe s₂) X.xe s₁) (fun u s' xx => ?_) PassesOwn.looking).run [] s σ H D (I.toTry _) h) (fun f s1 hsp => ?_) (fun e s1 he => he)
  · obtain ⟨a, B, sI, pins', σ', H', cls, d, rfl, J', nb, up, sky, na, os, ag, w⟩ := xx
    have J : Inv X pins σ' H' sI := J'.ofTry ok
    have sky' : Sky B (X.env :: X.outer) a (Zc cls d) X.env.locals s'.heap := by rw [← hs]; exact sky
    show wpAny (model X.prog X.w) X.A (noteFrame (.ref a) X.env) _ _ _
    refine Sky.land Zc.steady hfr hf sky' fun h3 fl3 up3 => ?_
    have J3 : Inv X pins σ' H' { s' with heap := h3 } := J.landed nb fl3.1 (up.trans up3) os ag
    obtain ⟨oe3, vs3, he3, hz3, hd3⟩ := fl3.there
    have notFr : ∀ {h : Heap} {o : Obj} {vs : Array Value}, h.FunFrames B (X.env :: X.outer) → h.get? a = some o → o.data = .fields vs → a ∉ frs (X.env :: X.outer) := fun {h o vs} ff e dd hm => by
      obtain ⟨_, o', e', hnf⟩ := ff.mem hm
      rw [e] at e'; cases e'
      exact hnf _ dd
    have nfr := notFr fl3.2.2.1 he3 hd3
    have nL : a ≠ X.env.locals := fun z => nfr (List.mem_filterMap.mpr ⟨X.env, List.mem_cons_self, by rw [hf, z]⟩)
    have nF : a ∉ X.fs := fun hm => by
      obtain ⟨e, he, q⟩ := List.mem_filterMap.mp hm
      exact nfr (List.mem_filterMap.mpr ⟨e, List.mem_cons_of_mem _ he, q⟩)
    have S3 := J3.suite he3 hd3 na nL nF
    have LT : PySem.W.Looks (model X.prog X.w) h3 (typeOf (.ref a)) cls := fun A Q E s k q => wpAny_typeOf_ref (k _ _ he3) (by rw [hz3.1]; exact q)
    have test : ∀ {x : Str} {c : Value} {np : Pos} (hc : Names X x c) {Q : Value → Shared → Prop} {E : Value → Shared → Prop}, Q c { s' with heap := h3 } → wpAny (model X.prog X.w) (X.A.mark (some (.ref a))) (eval (.Name x np) X.env) Q E { s' with heap := h3 } := by
      intro x c np hc Q E q
      obtain ⟨hg, hdbg, hm | ⟨hm, hv, hnn⟩⟩ := hc
      · exact ld_glob (X := X.suite a ((a, oe3) :: (X.pn ++ pins))) S3 hg hm q hdbg
      · exact ld_blt (X := X.suite a ((a, oe3) :: (X.pn ++ pins))) S3 hg hm hv q hnn hdbg
    have go : ∀ {hds' : List ExceptHandler} {l' : List Clz}, HdsA X hds' l' → wManyA X.K Wout D l' cls d σ' H' →
        wpAny (model X.prog X.w) X.A (handleBy (.ref a) X.env hds') (SP X pins D) X.xe { s' with heap := h3 } := by
      intro hds' l' hk
      induction hk with
      | nil =>
        intro w
        refine wpAny_handleBy_nil ?_
        obtain ⟨k1, k2, k3, oe, vs, T, oT, ts', he, hz, hd, h1, hr⟩ := id fl3
        unfold PySem.passOn
        refine wpAny_bind (wpAny_field he hd h1 ?_)
        rw [if_neg (show ¬ ((Value.ref T == Value.none) = true) from by simp)]
        have fin : wpAny (model X.prog X.w) X.A (setFlight (.ref a) X.env.frame) (fun _ s4 => wpAny (model X.prog X.w) X.A (throw (.ref a) : Sem Flow) (SP X pins D) X.xe s4) X.xe { s' with heap := h3 } := by
          rw [hf]
          refine HandSPX.setFlight_upZ fl3 fun h4 hh4 up4 => wpAny_throw (tk _ _ ?_)
          exact ⟨a, B, sI, pins, σ', H', cls, d, rfl, J, nb, (up.trans up3).trans up4, .inr (.inr (by rw [hs]; exact hh4)), na, os, ag, w⟩
        first
          | exact wpAny_bind (wpAny_pure (wpAny_bind fin))
          | exact wpAny_bind fin
      | @bare x c ts b₀ suite np pos' hds2 l2 hc hsu r ih =>
        intro w
        obtain ⟨b, hb1, hyes, hno⟩ := w
        refine wpAny_handleBy_cons (codeAny_handlers_test ?_) (by intro q; cases q)
        have LM := PySem.W.exm_one (M := model X.prog X.w) (J3.kIn) LT hb1
        refine test hc (LM.here ?_)
        cases b with
        | true =>
          refine codeAny_handlers_suite ?_
          refine HandSPX.lands_againZ fl3 fun h4 fl4 up4 => ?_
          have J4 : Inv X pins σ' H' { s' with heap := h4 } := J.landed nb fl4.1 ((up.trans up3).trans up4) os ag
          obtain ⟨oe4, vs4, he4, hz4, hd4⟩ := fl4.there
          have S4 := J4.suite he4 hd4 na nL nF
          refine wpAny_mono ((hsu a oe4 cls d (X.pn ++ pins) hz4 ⟨_, hd4⟩).run [] _ _ H' _ S4 (hyes rfl a na)) (fun f s6 hsp => ?_) (fun _ _ z => False.elim z)
          cases f with
          | next =>
            obtain ⟨σ6, H6, S6, q6⟩ := hsp
            exact ⟨_, _, S6.unsuite ok, q6⟩
          | brk =>
            obtain ⟨σ6, H6, S6, q6⟩ := hsp
            exact ⟨_, _, S6.unsuite ok, q6⟩
          | cont =>
            obtain ⟨σ6, H6, S6, q6⟩ := hsp
            exact ⟨_, _, S6.unsuite ok, q6⟩
          | ret u =>
            obtain ⟨v6, σ6, H6, S6, r6, q6⟩ := hsp
            exact ⟨_, _, _, S6.unsuite ok, r6, q6⟩
        | false =>
          show wpAny _ X.A (handleBy (.ref a) X.env hds2) _ _ _
          exact ih (hno rfl)
      | @as_ x n i c ts b₀ suite np pos' hds2 l2 hN hi hln hc hsu r ih =>
        intro w
        obtain ⟨b, hb1, hyes, hno⟩ := w
        have hloc : Loc X.env.scope n := .inl hln
        refine wpAny_handleBy_cons (codeAny_handlers_test ?_) (by intro q; cases q)
        have LM := PySem.W.exm_one (M := model X.prog X.w) (J3.kIn) LT hb1
        refine test hc (LM.here ?_)
        cases b with
        | true =>
          refine codeAny_handlers_suite_as ?_
          refine HandSPX.lands_againZ fl3 fun h4 fl4 up4 => ?_
          have J4 : Inv X pins σ' H' { s' with heap := h4 } := J.landed nb fl4.1 ((up.trans up3).trans up4) os ag
          obtain ⟨oe4, vs4, he4, hz4, hd4⟩ := fl4.there
          have S4 := J4.suite he4 hd4 na nL nF
          refine store_ok (X := X.suite a ((a, oe4) :: (X.pn ++ pins))) (v := .ref a) S4 hN hi hloc rfl (fun s5 S5 => ?_) (.inr hln)
          refine wpAny_mono ((hsu a oe4 cls d (X.pn ++ pins) hz4 ⟨_, hd4⟩).run [] s5 _ H' _ S5 (hyes rfl a na)) (fun f s6 hsp => ?_) (fun _ _ z => False.elim z)
          have end_ : ∀ {σ6 : St} {H6 : Hp} {Q : Shared → Prop}, Inv (X.suite a ((a, oe4) :: (X.pn ++ pins))) [] σ6 H6 s6 → (∀ s7, Inv X pins (σ6.set i none) H6 s7 → Q s7) →
              wpAny (model X.prog X.w) X.A (do bindName X.env n .none; unbindBehindTheSuite X.env n pos') (fun _ s7 => Q s7) X.xe s6 := fun {σ6 H6 Q} S6 hq => gone_ok (S6.unsuite ok) hN hi hln hq
          cases f with
          | next =>
            obtain ⟨σ6, H6, S6, q6⟩ := hsp
            exact end_ S6 fun s7 J7 => ⟨_, _, J7, q6⟩
          | brk =>
            obtain ⟨σ6, H6, S6, q6⟩ := hsp
            exact end_ S6 fun s7 J7 => ⟨_, _, J7, q6⟩
          | cont =>
            obtain ⟨σ6, H6, S6, q6⟩ := hsp
            exact end_ S6 fun s7 J7 => ⟨_, _, J7, q6⟩
          | ret u =>
            obtain ⟨v6, σ6, H6, S6, r6, q6⟩ := hsp
            exact end_ S6 fun s7 J7 => ⟨_, _, _, J7, r6, q6⟩
        | false =>
          show wpAny _ X.A (handleBy (.ref a) X.env hds2) _ _ _
          exact ih (hno rfl)
    exact go hh w
  · cases f with
    | next =>
      obtain ⟨σ', H', J', q⟩ := hsp
      exact wpAny_execs_nil ⟨σ', H', J'.ofTry ok, q⟩
    | brk =>
      obtain ⟨σ', H', J', q⟩ := hsp
      exact ⟨σ', H', J'.ofTry ok, q⟩
    | cont =>
      obtain ⟨σ', H', J', q⟩ := hsp
      exact ⟨σ', H', J'.ofTry ok, q⟩
    | ret u =>
      obtain ⟨v, σ', H', J', r, q⟩ := hsp
      exact ⟨v, σ', H', J'.ofTry ok, r, q⟩
end
/-- isinstance(e, c), e the exception that the suite holds at a: its class cls, its dict d -/
def rIsEd (K : PySem.W.Frag) (a : Addr) (cls : Value) (d : Option Addr) : List V → Hp → VK → Prop := fun xs H Q => ∃ (c : V) (cv : Value) (b : Bool) (D dd : Addr) (fs : List (Str × V)), xs = [.ref a, c] ∧ cls = .ref D ∧ ExcC K D ∧ d = some dd ∧ H dd = some (.xd fs) ∧
  (∀ u, RelV c u → u = cv) ∧ PySem.W.kitOne K (.ref D) cv = some b ∧ Q (.bl b) H
theorem call_isEd {X : Cx} {a : Addr} {cls : Value} {d : Option Addr} {oe : Obj} {pn : List (Addr × Obj)} (hz : Zc cls d oe) (hf : ∃ vs, oe.data = .fields vs) : CallR (X.suite a ((a, oe) :: pn)) (.builtin "isinstance") (rIsEd X.K a cls d) := by
  intro pins s σ H xs us Q I r h
  obtain ⟨c, cv, b, D, dd, fs, rfl, rfl, C, rfl, hdd, hcv, e, q⟩ := h
  cases r with
  | cons rx rr =>
    cases rr with
    | cons rt rr =>
      cases rr
      cases rx
      have ec := hcv _ rt
      subst ec
      obtain ⟨hget, _⟩ := I.pin (a, oe) (List.mem_append.mpr (.inl List.mem_cons_self))
      obtain ⟨vs, hv⟩ := hf
      have hx : ObjOk X.prog X.w H s.heap dd (.xd fs) := I.hok dd _ hdd
      obtain ⟨mA, hns, hr⟩ := hx
      obtain ⟨od, ho, hl⟩ := lookIn_ns hns
      have J : PySem.W.InstAt s.heap a oe D (some od) := ⟨hget, hz.1, by unfold PySem.W.notCls; rw [hv] <;> rfl, by rw [hz.2]; exact ho⟩
      have hcl : (PySem.W.clsIn X.K D).isSome = true := by
        obtain ⟨cd, hc, _⟩ := PySem.W.any_some C.hd
        rw [hc] <;> rfl
      exact PySem.W.kia_one (PySem.W.kitx_exc hcl C.hg C.hk C.hs C.ha C.hn C.ht C.hm) I.kIn J e (fun z => nomatch z) fun tk => ⟨.bl b, H, I.kept (t' := tk) fun _ _ z => z, rfl, q⟩
end L2

/-! Words of my own over HandS: promises by arity, callable defs, readings step by step. -/
namespace L2
open PySem PySem.Spec PyProof.Rows
/-! ### promises by the number of arguments -/
def sp1 (P : V → Hp → VK → XK → Prop) : Sp := fun vs H Q E => ∃ a, vs = [a] ∧ P a H Q E
def sp2 (P : V → V → Hp → VK → XK → Prop) : Sp := fun vs H Q E => ∃ a b, vs = [a, b] ∧ P a b H Q E
def sp3 (P : V → V → V → Hp → VK → XK → Prop) : Sp := fun vs H Q E => ∃ a b c, vs = [a, b, c] ∧ P a b c H Q E
def sp4 (P : V → V → V → V → Hp → VK → XK → Prop) : Sp := fun vs H Q E => ∃ a b c d, vs = [a, b, c, d] ∧ P a b c d H Q E
def sp5 (P : V → V → V → V → V → Hp → VK → XK → Prop) : Sp := fun vs H Q E => ∃ a b c d e, vs = [a, b, c, d, e] ∧ P a b c d e H Q E
theorem sp1_len {P} {vs H Q E} (h : sp1 P vs H Q E) : vs.length = 1 := by obtain ⟨_, rfl, _⟩ := h; rfl
theorem sp2_len {P} {vs H Q E} (h : sp2 P vs H Q E) : vs.length = 2 := by obtain ⟨_, _, rfl, _⟩ := h; rfl
theorem sp3_len {P} {vs H Q E} (h : sp3 P vs H Q E) : vs.length = 3 := by obtain ⟨_, _, _, rfl, _⟩ := h; rfl
theorem sp4_len {P} {vs H Q E} (h : sp4 P vs H Q E) : vs.length = 4 := by obtain ⟨_, _, _, _, rfl, _⟩ := h; rfl
theorem sp5_len {P} {vs H Q E} (h : sp5 P vs H Q E) : vs.length = 5 := by obtain ⟨_, _, _, _, _, rfl, _⟩ := h; rfl
/-! ### a def that may be called by its name -/
structure CalX (P : Program) (w : World) (K : PySem.W.Frag) (mg : Str → Option Value) (base : Heap) (CX : CXT) (k : Nat) (x : Str) (sp : Sp) : Prop where
  ex : ∃ (f : Addr) (fd : FuncData) (ps : List Str), FnOk P w K mg base CX k f fd ps sp ∧ mg x = some (.ref f) ∧ PySem.W.keepIn K (.ref f) = true ∧ Binds K fd ps []
section
variable {P : Program} {w : World} {K : PySem.W.Frag} {mg : Str → Option Value} {base : Heap}
/-- a def without try and raise -/
theorem calx0 {x : Str} {params : Arguments} {body : List Stmt} {scope : Scope} {f : Addr} {fd : FuncData} {N ps : List Str} {k : Nat} {sp : Sp} (F : FunD K x x params body scope [] [] f fd) (hm : mg x = some (.ref f)) (S : FnScope N ps scope)
    (b : Binds K fd ps []) (len : ∀ vs H Q E, sp vs H Q E → vs.length = ps.length)
    (hbody : ∀ (cdv : Value) (A : Around) (outer : List Env) (s : Shared) (H : Hp) (vs : List V) (Q : VK) (E : XK), Room k (A.deeper (envOfC x scope s.heap.objs.size f cdv)) → sp vs H Q E →
      ∃ t, PSs (cxOf CX0 P w K mg base N x scope f cdv A outer s H E).nox body t ∧ t { nx := fun _ H' => Q .non H', rt := Q } (start N vs) H) : CalX P w K mg base CX0 (k + 1) x sp :=
  ⟨f, fd, ps, F.ok S len fun cdv A outer s H vs Q E hr h => by
    obtain ⟨t, h1, h2⟩ := hbody cdv A outer s H vs Q E hr h
    exact ⟨t, h1.nox, h2⟩, hm, F.kp, b⟩
theorem calxX {CX : CXT} {x : Str} {params : Arguments} {body : List Stmt} {scope : Scope} {f : Addr} {fd : FuncData} {N ps : List Str} {k : Nat} {sp : Sp} (F : FunD K x x params body scope [] [] f fd) (hm : mg x = some (.ref f)) (S : FnScope N ps scope)
    (b : Binds K fd ps []) (len : ∀ vs H Q E, sp vs H Q E → vs.length = ps.length)
    (hbody : ∀ (cdv : Value) (A : Around) (outer : List Env) (s : Shared) (H : Hp) (vs : List V) (Q : VK) (E : XK), Room k (A.deeper (envOfC x scope s.heap.objs.size f cdv)) → sp vs H Q E →
      ∃ t, PSs (cxOf CX P w K mg base N x scope f cdv A outer s H E) body t ∧ t { nx := fun _ H' => Q .non H', rt := Q } (start N vs) H) : CalX P w K mg base CX (k + 1) x sp :=
  ⟨f, fd, ps, F.ok S len hbody, hm, F.kp, b⟩
end
section
variable {X : Cx} {CX : CXT} {k j : Nat} {x : Str} {sp : Sp} {p pos : Pos} {e : Expr} {es : List Expr} {t : TA} {E : XK} {ES : St → XK}
theorem pe_cx (c : CalX X.prog X.w X.K X.mg X.base CX k x sp) (hr : Room j X.A) (hk : k ≤ j) (hg : Gl X x) (hx : Passes CX X E) (ha : PA X (e :: es) t)
    (hdb : (x == ("__debug__" : Str)) = false := by decide) (he : starEach (e :: es) X.env = (false, eval e X.env) :: starEach es X.env := by rfl) (hpl : (backTo pos (starEach es X.env)).any (·.1) = false := by rfl) :
    PE X (.Call (.Name x p) (e :: es) [] pos) (tCall sp [] E t) := by
  obtain ⟨f, fd, ps, F, hm, kp, b⟩ := c.ex
  exact pe_call F (hr.mono hk) hg hm kp b .nil hx ha hdb he hpl
theorem pe_cx0 (c : CalX X.prog X.w X.K X.mg X.base CX k x sp) (hr : Room j X.A) (hk : k ≤ j) (hg : Gl X x) (hx : Passes CX X E) (hdb : (x == ("__debug__" : Str)) = false := by decide) :
    PE X (.Call (.Name x p) [] [] pos) (tCall sp [] E tNil) := by
  obtain ⟨f, fd, ps, F, hm, kp, b⟩ := c.ex
  exact pe_call0 F (hr.mono hk) hg hm kp b .nil hx hdb
/-- within a try -/
theorem pe_cxS (c : CalX X.prog X.w X.K X.mg X.base CX k x sp) (hr : Room j X.A) (hk : k ≤ j) (hg : Gl X x) (hx : ∀ σ, PassesAt CX X σ (ES σ)) (ha : PA X (e :: es) t)
    (hdb : (x == ("__debug__" : Str)) = false := by decide) (he : starEach (e :: es) X.env = (false, eval e X.env) :: starEach es X.env := by rfl) (hpl : (backTo pos (starEach es X.env)).any (·.1) = false := by rfl) :
    PE X (.Call (.Name x p) (e :: es) [] pos) (tCallS sp ES t) := by
  obtain ⟨f, fd, ps, F, hm, kp, b⟩ := c.ex
  exact pe_callS F (hr.mono hk) hg hm kp b hx ha hdb he hpl
/-- a name of the module, by its value -/
theorem pe_gv {v : V} (h : ∃ u, X.mg x = some u ∧ RelV v u) (hg : Gl X x := by rfl) (hd : (x == ("__debug__" : Str)) = false := by decide) : PE X (.Name x pos) (tC v) := by
  obtain ⟨u, hm, r⟩ := h
  exact pe_glob hg hm r hd
end
/-! ### more operators -/
section
variable {X : Cx}
/-- text * int -/
def rRepS : R2 := fun x y H Q => ∃ z n, x = .str z ∧ y = .int n ∧ MulOk z n ∧ Q (.str (Txt.mul z n)) H
theorem op_repS : OpR X (binaryOp .Mult) rRepS := by
  intro pins s σ H x y u v Q I rx ry h
  obtain ⟨z, n, rfl, rfl, hok, q⟩ := h
  obtain ⟨t, rfl⟩ := rx
  obtain ⟨t', rfl⟩ := ry
  exact SB.mul hok fun t1 k => ⟨.str (Txt.mul z n), H, I.tok _, ⟨_, rfl⟩, q⟩
end
/-! ### readings by name -/
section
variable {X : Cx}
def rCatS : R2 := fun x y H Q => ∃ i j, x = .str i ∧ y = .str j ∧ i.length + j.length ≤ sizeLine ∧ Q (.str (i ++ j)) H
theorem op_catS : OpR X (binaryOp .Add) rCatS := op_add_str
def rAddI : R2 := rI0 fun i j => .int (i + j)
def rSubI : R2 := rI0 fun i j => .int (i - j)
def rMulI : R2 := rI CMul fun i j => .int (i * j)
def rDivI : R2 := rI CDiv fun i j => .int (i / j)
def rModI : R2 := rI (fun _ j => 0 < j) fun i j => .int (i % j)
def rPowI : R2 := rI CPow fun i j => .int (i ^ j.toNat)
def rLtI : R2 := rI0 fun i j => .bl (decide (i < j))
def rLeI : R2 := rI0 fun i j => .bl (decide (i ≤ j))
def rGtI : R2 := rI0 fun i j => .bl (decide (j < i))
def rGeI : R2 := rI0 fun i j => .bl (decide (j ≤ i))
theorem op_addI : OpR X (binaryOp .Add) rAddI := op_add
theorem op_subI : OpR X (binaryOp .Sub) rSubI := op_sub
theorem op_mulI : OpR X (binaryOp .Mult) rMulI := op_mul
theorem op_divI : OpR X (binaryOp .FloorDiv) rDivI := op_fdiv
theorem op_modI : OpR X (binaryOp .Mod) rModI := op_mod
theorem op_powI : OpR X (binaryOp .Pow) rPowI := op_pow
theorem op_ltI : OpR X (compareOp .Lt) rLtI := op_lt
theorem op_leI : OpR X (compareOp .LtE) rLeI := op_le
theorem op_gtI : OpR X (compareOp .Gt) rGtI := op_gt
theorem op_geI : OpR X (compareOp .GtE) rGeI := op_ge
/-- one sign in a text -/
def rInC : R2 := fun x y H Q => ∃ (c : Nat) (z : Str), x = .str ⟨#[c]⟩ ∧ y = .str z ∧ Q (.bl (decide (c ∈ z.cps.toList))) H
def rNotInC : R2 := fun x y H Q => ∃ (c : Nat) (z : Str), x = .str ⟨#[c]⟩ ∧ y = .str z ∧ Q (.bl (!decide (c ∈ z.cps.toList))) H
theorem op_inC : OpR X (compareOp .In) rInC := op_in_sign
theorem op_notInC : OpR X (compareOp .NotIn) rNotInC := op_notIn_sign
def rLenQ (K : PySem.W.Frag) : List V → Hp → VK → Prop := fun xs H Q => ∃ p ys, xs = [.ref p] ∧ (SqL K H p ys ∨ SqT K H p ys) ∧ Q (.int ys.length) H
def rLenT : List V → Hp → VK → Prop := fun xs H Q => ∃ z : Str, xs = [.str z] ∧ z.length ≤ sizeLine ∧ Q (.int z.length) H
theorem call_lenQ : CallR X (.builtin "len") (rLenQ X.K) := call_len_seq
theorem call_lenT : CallR X (.builtin "len") rLenT := call_len_str
def rAbsI : List V → Hp → VK → Prop := fun xs H Q => ∃ i, xs = [.int i] ∧ Q (.int (if i < 0 then -i else i)) H
theorem call_absI : CallR X (.builtin "abs") rAbsI := call_abs
def rMaxI : List V → Hp → VK → Prop := fun xs H Q => ∃ i j, xs = [.int i, .int j] ∧ Q (.int (if j > i then j else i)) H
def rMinI : List V → Hp → VK → Prop := fun xs H Q => ∃ i j, xs = [.int i, .int j] ∧ Q (.int (if j < i then j else i)) H
theorem call_maxI (hc : X.calm = true) : CallR X (.builtin "max") rMaxI := call_max2 hc
theorem call_minI (hc : X.calm = true) : CallR X (.builtin "min") rMinI := call_min2 hc
def rIntI : List V → Hp → VK → Prop := fun xs H Q => ∃ i, xs = [.int i] ∧ Q (.int i) H
theorem call_intI : CallR X (.type "int") rIntI := fun pins s σ H xs us Q I r ⟨i, e, q⟩ => call_int1 pins s σ H xs us Q I r (.inl ⟨i, e, q⟩)
def rTupL (K : PySem.W.Frag) : List V → Hp → VK → Prop := fun xs H Q => ∃ p ys, xs = [.ref p] ∧ SqL K H p ys ∧ ∀ l, H l = none → Q (.ref l) (upd H l (.tup ys))
theorem call_tupL : CallR X (.type "tuple") (rTupL X.K) := fun pins s σ H xs us Q I r ⟨p, ys, e, h, q⟩ => call_tuple_of pins s σ H xs us Q I r ⟨p, ys, e, .inl ⟨h, q⟩⟩
def rLstQ (K : PySem.W.Frag) : List V → Hp → VK → Prop := fun xs H Q => ∃ p ys, xs = [.ref p] ∧ (SqL K H p ys ∨ SqT K H p ys) ∧ ∀ l, H l = none → Q (.ref l) (upd H l (.lst ys))
theorem call_lstQ : CallR X (.type "list") (rLstQ X.K) := call_list_of
/-- a list of the call's own -/
abbrev rIxTu := rIxT
end
/-! ### steps -/
section
variable {σ : St} {H : Hp} {i : Nat} {v x y z : V} {ta tb tc te : TE} {tt uu : TT} {tA tR : TA} {Q : VK} {QB : Bool → Hp → Prop} {QA : List V → Hp → Prop} {QO : Option Int → Hp → Prop} {D : Ends} {t u : TS} {g : TG} {r r' : R2} {K : PySem.W.Frag}
theorem w_var (e : σ[i]? = some (some v)) (h : Q v H) : tVar i σ H Q := ⟨v, e, h⟩
theorem w_c (h : Q v H) : tC v σ H Q := h
theorem w_op (h : ta σ H fun x H1 => tb σ H1 fun y H2 => r x y H2 Q) : tOp r ta tb σ H Q := h
theorem w_un {ru : V → Hp → VK → Prop} (h : ta σ H fun x H1 => ru x H1 Q) : tUn ru ta σ H Q := h
theorem w_seq (h : t { D with nx := u D } σ H) : tSeq t u D σ H := h
theorem w_next (h : D.nx σ H) : tNext D σ H := h
theorem w_brk (h : D.bk σ H) : tBreak D σ H := h
theorem w_cnt (h : D.ct σ H) : tCont D σ H := h
theorem w_asgN (h : te σ H fun x H1 => D.nx (σ.set i (some x)) H1) : tAsg te (gName i) D σ H := h
theorem w_asg (h : te σ H fun x H1 => g x σ H1 D.nx) : tAsg te g D σ H := h
theorem w_aug {ti : TIp} (e : σ[i]? = some (some x)) (h : te σ H fun y H1 => ti x y H1 fun z H2 => D.nx (σ.set i (some z)) H2) : tAug i te ti D σ H := ⟨x, e, h⟩
theorem w_ipI {f : Int → Int → Int} {a b : Int} (h : Q (.int (f a b)) H) : ipI f (.int a) (.int b) H Q := ⟨a, b, rfl, rfl, h⟩
theorem w_ret (h : te σ H D.rt) : tRet te D σ H := h
theorem w_retN (h : D.rt .non H) : tRetN D σ H := h
theorem w_drop (h : te σ H fun _ H1 => D.nx σ H1) : tDrop te D σ H := h
theorem w_ifS (h : tt σ H fun b H1 => if b = true then t D σ H1 else u D σ H1) : tIfS tt t u D σ H := h
theorem w_if (h : tt σ H fun b H1 => if b = true then ta σ H1 Q else tb σ H1 Q) : tIf tt ta tb σ H Q := h
theorem w_test (h : te σ H fun x H' => ∃ k, x = .bl k ∧ QB k H') : tTest te σ H QB := h
theorem w_tB (h : te σ H fun x H' => ∃ k, x = .bl k ∧ QB k H') : tB te σ H QB := h
theorem w_bl {b : Bool} {F : Bool → Prop} (h : F b) : ∃ k, V.bl b = .bl k ∧ F k := ⟨b, rfl, h⟩
theorem w_and (h : tt σ H fun c H1 => if c = true then uu σ H1 QB else QB false H1) : tAnd tt uu σ H QB := h
theorem w_or (h : tt σ H fun c H1 => if c = true then QB true H1 else uu σ H1 QB) : tOr tt uu σ H QB := h
theorem w_not (h : tt σ H fun c H1 => QB (!c) H1) : tNot tt σ H QB := h
theorem w_andV (h : ta σ H fun x H1 => ∃ c, x = .bl c ∧ if c = true then tb σ H1 Q else Q (.bl false) H1) : tAndV ta tb σ H Q := h
theorem w_orV (h : ta σ H fun x H1 => ∃ c, x = .bl c ∧ if c = true then Q (.bl true) H1 else tb σ H1 Q) : tOrV ta tb σ H Q := h
theorem w_notV (h : ta σ H fun x H1 => ∃ c, x = .bl c ∧ Q (.bl (!c)) H1) : tNotV ta σ H Q := h
theorem w_blI {b : Bool} {F : Bool → Prop} (h : F b) : ∃ c, V.bl b = .bl c ∧ F c := ⟨b, rfl, h⟩
theorem w_nil (h : QA [] H) : tNil σ H QA := h
theorem w_cons (h : te σ H fun x H1 => tR σ H1 fun xs H2 => QA (x :: xs) H2) : tCons te tR σ H QA := h
theorem w_cb {rc : List V → Hp → VK → Prop} (h : tA σ H fun vs H1 => rc vs H1 Q) : tCB rc tA σ H Q := h
theorem w_call {sp : Sp} {E : XK} (h : tA σ H fun vs H1 => sp vs H1 Q E) : tCall sp [] E tA σ H Q := by
  have e : tCall sp [] E tA σ H Q = tA σ H fun vs H1 => sp (vs ++ []) H1 Q E := rfl
  rw [e]
  simpa only [List.append_nil] using h
theorem w_callS {sp : Sp} {ES : St → XK} (h : tA σ H fun vs H1 => sp vs H1 Q (ES σ)) : tCallS sp ES tA σ H Q := h
theorem w_chain (h : ta σ H fun x H1 => tb σ H1 fun y H2 => r x y H2 fun z H3 => ∃ k, z = .bl k ∧ (if k = true then tc σ H3 fun w' H4 => r' y w' H4 Q else Q (.bl false) H3)) : tChain r r' ta tb tc σ H Q := h
theorem w_tup (h : tA σ H fun xs H1 => xs.length ≤ sizeLine ∧ ∀ p, H1 p = none → Q (.ref p) (upd H1 p (.tup xs))) : tTup tA σ H Q := h
theorem w_lst (h : tA σ H fun xs H1 => xs.length ≤ sizeLine ∧ ∀ p, H1 p = none → Q (.ref p) (upd H1 p (.lst xs))) : tLst tA σ H Q := h
theorem w_new {vs : List V} {F : Addr → Prop} (hz : vs.length ≤ 4096) (h : ∀ p, H p = none → F p) : vs.length ≤ sizeLine ∧ ∀ p, H p = none → F p := ⟨Nat.le_trans hz (by decide), h⟩
theorem w_sl {rs : V → Option Int → Option Int → Hp → VK → Prop} {tl th : TO} (h : te σ H fun x H1 => tl σ H1 fun l H2 => th σ H2 fun u H3 => rs x l u H3 Q) : tSl rs te tl th σ H Q := h
theorem w_noPart (h : QO none H) : tNoPart σ H QO := h
theorem w_part (h : te σ H fun x H1 => ∃ i, x = .int i ∧ QO (some i) H1) : tPart te σ H QO := h
theorem w_partI {n : Int} {F : Int → Prop} (h : F n) : ∃ i, V.int n = .int i ∧ F i := ⟨n, rfl, h⟩
theorem w_I0 {f : Int → Int → V} {a b : Int} (h : Q (f a b) H) : rI0 f (.int a) (.int b) H Q := ⟨a, b, rfl, rfl, h⟩
theorem w_addI {a b : Int} (h : Q (.int (a + b)) H) : rAddI (.int a) (.int b) H Q := ⟨a, b, rfl, rfl, h⟩
theorem w_subI {a b : Int} (h : Q (.int (a - b)) H) : rSubI (.int a) (.int b) H Q := ⟨a, b, rfl, rfl, h⟩
theorem w_mulI {a b : Int} (hc : CMul a b) (h : Q (.int (a * b)) H) : rMulI (.int a) (.int b) H Q := ⟨a, b, rfl, rfl, hc, h⟩
theorem w_divI {a b : Int} (hc : CDiv a b) (h : Q (.int (a / b)) H) : rDivI (.int a) (.int b) H Q := ⟨a, b, rfl, rfl, hc, h⟩
theorem w_modI {a b : Int} (hc : 0 < b) (h : Q (.int (a % b)) H) : rModI (.int a) (.int b) H Q := ⟨a, b, rfl, rfl, hc, h⟩
theorem w_powI {a b : Int} (hc : CPow a b) (h : Q (.int (a ^ b.toNat)) H) : rPowI (.int a) (.int b) H Q := ⟨a, b, rfl, rfl, hc, h⟩
theorem w_ltI {a b : Int} (h : Q (.bl (decide (a < b))) H) : rLtI (.int a) (.int b) H Q := ⟨a, b, rfl, rfl, h⟩
theorem w_leI {a b : Int} (h : Q (.bl (decide (a ≤ b))) H) : rLeI (.int a) (.int b) H Q := ⟨a, b, rfl, rfl, h⟩
theorem w_gtI {a b : Int} (h : Q (.bl (decide (b < a))) H) : rGtI (.int a) (.int b) H Q := ⟨a, b, rfl, rfl, h⟩
theorem w_geI {a b : Int} (h : Q (.bl (decide (b ≤ a))) H) : rGeI (.int a) (.int b) H Q := ⟨a, b, rfl, rfl, h⟩
theorem w_eqI {a b : Int} (h : Q (.bl (decide (a = b))) H) : rEq (.int a) (.int b) H Q := ⟨rfl, by
  have e : decide (V.int a = V.int b) = decide (a = b) := by simp
  rw [e]; exact h⟩
theorem w_neI {a b : Int} (h : Q (.bl (!decide (a = b))) H) : rNe (.int a) (.int b) H Q := ⟨rfl, by
  have e : decide (V.int a = V.int b) = decide (a = b) := by simp
  rw [e]; exact h⟩
theorem w_eqS {a b : Str} (h : Q (.bl (decide (a = b))) H) : rEq (.str a) (.str b) H Q := ⟨rfl, by
  have e : decide (V.str a = V.str b) = decide (a = b) := by simp
  rw [e]; exact h⟩
theorem w_neS {a b : Str} (h : Q (.bl (!decide (a = b))) H) : rNe (.str a) (.str b) H Q := ⟨rfl, by
  have e : decide (V.str a = V.str b) = decide (a = b) := by simp
  rw [e]; exact h⟩
theorem w_catS {a b : Str} (hz : a.length + b.length ≤ sizeLine) (h : Q (.str (a ++ b)) H) : rCatS (.str a) (.str b) H Q := ⟨a, b, rfl, rfl, hz, h⟩
theorem w_repS {a : Str} {n : Int} (hz : MulOk a n) (h : Q (.str (Txt.mul a n)) H) : rRepS (.str a) (.int n) H Q := ⟨a, n, rfl, rfl, hz, h⟩
theorem w_inC {c : Nat} {z : Str} (h : Q (.bl (decide (c ∈ z.cps.toList))) H) : rInC (.str ⟨#[c]⟩) (.str z) H Q := ⟨c, z, rfl, rfl, h⟩
theorem w_notInC {c : Nat} {z : Str} (h : Q (.bl (!decide (c ∈ z.cps.toList))) H) : rNotInC (.str ⟨#[c]⟩) (.str z) H Q := ⟨c, z, rfl, rfl, h⟩
theorem w_lenT {z : Str} (hz : z.length ≤ sizeLine) (h : Q (.int z.length) H) : rLenT [.str z] H Q := ⟨z, rfl, hz, h⟩
theorem w_lenL {p : Addr} {ys : List V} (hs : SqL K H p ys) (h : Q (.int ys.length) H) : rLenQ K [.ref p] H Q := ⟨p, ys, rfl, .inl hs, h⟩
theorem w_lenU {p : Addr} {ys : List V} (hs : SqT K H p ys) (h : Q (.int ys.length) H) : rLenQ K [.ref p] H Q := ⟨p, ys, rfl, .inr hs, h⟩
theorem w_absI {a : Int} (h : Q (.int (if a < 0 then -a else a)) H) : rAbsI [.int a] H Q := ⟨a, rfl, h⟩
theorem w_intI {a : Int} (h : Q (.int a) H) : rIntI [.int a] H Q := ⟨a, rfl, h⟩
theorem w_maxI {a b : Int} (h : Q (.int (if b > a then b else a)) H) : rMaxI [.int a, .int b] H Q := ⟨a, b, rfl, h⟩
theorem w_minI {a b : Int} (h : Q (.int (if b < a then b else a)) H) : rMinI [.int a, .int b] H Q := ⟨a, b, rfl, h⟩
theorem w_ixL {p : Addr} {xs : List V} {n : Nat} (hs : SqL K H p xs) (e : xs[n]? = some v) (h : Q v H) : rIxL K (.ref p) (.int (n : Int)) H Q := ⟨p, xs, n, v, rfl, rfl, hs, atI_nat e, h⟩
theorem w_ixU {p : Addr} {xs : List V} {n : Nat} (hs : SqT K H p xs) (e : xs[n]? = some v) (h : Q v H) : rIxT K (.ref p) (.int (n : Int)) H Q := ⟨p, xs, n, v, rfl, rfl, hs, atI_nat e, h⟩
theorem w_ixS {l : List Nat} {n : Nat} {c : Nat} (hz : l.length ≤ sizeLine) (e : l[n]? = some c) (h : Q (.str ⟨#[c]⟩) H) : rIxS (.str (SX.S l)) (.int (n : Int)) H Q := ⟨_, _, c, rfl, rfl, by rw [SX.S_len]; exact hz, atI_nat e, h⟩
theorem w_setL {p : Addr} {xs : List V} {k : Nat} {F : Hp → Prop} (hp : H p = some (.lst xs)) (hk : k < xs.length) (h : F (upd H p (.lst (xs.set k v)))) : rSetL (.ref p) (.int (k : Int)) v H F :=
  ⟨p, xs, k, k, rfl, rfl, hp, by unfold ixN; rw [if_pos (by omega), if_pos (by omega)]; rfl, h⟩
theorem w_gSub {ts : TSet} {F : St → Hp → Prop} (h : ta σ H fun o H1 => tb σ H1 fun i H2 => ts o i v H2 fun H3 => F σ H3) : gSub ta tb ts v σ H F := h
theorem w_bm {T : String} {rm : V → List V → Hp → VK → Prop} (h : te σ H fun x H1 => tyV K T x H1 ∧ tA σ H1 fun xs H2 => rm x xs H2 Q) : tBM K T rm te tA σ H Q := h
theorem w_bm0 {T : String} {rm : V → List V → Hp → VK → Prop} (h : te σ H fun x H1 => tyV K T x H1 ∧ rm x [] H1 Q) : tBM0 K T rm te σ H Q := h
theorem w_lstTy {p : Addr} {xs : List V} {F : Prop} (hp : H p = some (.lst xs)) (h : F) : tyV K "list" (.ref p) H ∧ F := ⟨.inl ⟨rfl, _, SqL.of hp⟩, h⟩
theorem w_app {p : Addr} {xs : List V} (hp : H p = some (.lst xs)) (hz : xs.length < sizeLine) (h : Q .non (upd H p (.lst (xs ++ [v])))) : rAppend (.ref p) [v] H Q := ⟨p, xs, v, rfl, rfl, hp, hz, h⟩
theorem w_dec {p : Prop} {inst : Decidable p} {A B : Prop} (h1 : p → A) (h2 : ¬ p → B) : if @decide p inst = true then A else B := by
  by_cases h : p
  · rw [if_pos (decide_eq_true h)]; exact h1 h
  · rw [if_neg (by simp [h])]; exact h2 h
theorem w_ndec {p : Prop} {inst : Decidable p} {A B : Prop} (h1 : ¬ p → A) (h2 : p → B) : if (!@decide p inst) = true then A else B := by
  by_cases h : p
  · rw [if_neg (by simp [h])]; exact h2 h
  · rw [if_pos (by simp [h])]; exact h1 h
theorem w_b {b : Bool} {A B : Prop} (h1 : b = true → A) (h2 : b = false → B) : if b = true then A else B := by
  cases b with
  | true => rw [if_pos rfl]; exact h1 rfl
  | false => rw [if_neg Bool.false_ne_true]; exact h2 rfl
theorem w_t {A B : Prop} (h : A) : if true = true then A else B := by rw [if_pos rfl]; exact h
theorem w_f {A B : Prop} (h : B) : if false = true then A else B := by rw [if_neg Bool.false_ne_true]; exact h
end
theorem w_nt {A B : Prop} (h : B) : if (!true) = true then A else B := h
theorem w_nf {A B : Prop} (h : A) : if (!false) = true then A else B := h
section
variable {f b c : St → Hp → Prop} {r : VK} {σ : St} {H : Hp} {v : V}
theorem w_nx (h : f σ H) : Ends.nx ⟨f, r, b, c⟩ σ H := h
theorem w_rt (h : r v H) : Ends.rt ⟨f, r, b, c⟩ v H := h
theorem w_bk (h : b σ H) : Ends.bk ⟨f, r, b, c⟩ σ H := h
theorem w_ct (h : c σ H) : Ends.ct ⟨f, r, b, c⟩ σ H := h
end
/-- the body of a def, its slots written out -/
theorem start1 (n : Str) (N : List Str) (v : V) : start (n :: N) [v] = some v :: List.replicate N.length none := rfl
/-- a word between a statement and the rest -/
theorem w_mid {t u : TS} {D : Ends} {σ : St} {H : Hp} (Mid : St → Hp → Prop) (h : t { D with nx := Mid } σ H) (k : ∀ σ' H', Mid σ' H' → u D σ' H') : Evl.tCut t u D σ H := ⟨Mid, h, k⟩
/-! ### loops -/
section
variable {σ : St} {H : Hp} {v : V} {te : TE} {tA : TA} {tc : TT} {D : Ends} {tb : TS} {g : TG} {wi : TI} {K : PySem.W.Frag} {R : It → Hp → Prop}
theorem w_for (h : wi σ H fun J H1 => ∃ W : Nat → Nat → St → Hp → Prop, (∃ m, W 0 m σ H1) ∧ ∀ i m σ H, W i m σ H →
    (J.stop i H ∧ D.nx σ H) ∨ (J.go i H ∧ ∃ N : St → Hp → Prop, (∀ σ' H', N σ' H' → ∃ m', m' < m ∧ W (i + 1) m' σ' H') ∧ ∀ x H', J.yld i H x H' → g x σ H' fun σ2 H2 => tb { D with nx := N, ct := N, bk := D.nx } σ2 H2)) : tFor wi g tb D σ H := h
theorem w_iR1 (h : tA σ H fun vs H1 => ∃ j : Int, vs = [.int j] ∧ -(2 ^ 62) ≤ j ∧ j < 2 ^ 62 ∧ R (Itr 0 j.toNat) H1) : iRng1 tA σ H R := h
theorem w_iR2 (h : tA σ H fun vs H1 => ∃ i j : Int, vs = [.int i, .int j] ∧ (-(2 ^ 62) ≤ i ∧ i < 2 ^ 62 ∧ -(2 ^ 62) ≤ j ∧ j < 2 ^ 62) ∧ R (Itr i (j - i).toNat) H1) : iRng2 tA σ H R := h
theorem w_rg1 {n : Int} {F : Int → Prop} (h1 : -(2 ^ 62) ≤ n) (h2 : n < 2 ^ 62) (h : F n) : ∃ j : Int, [V.int n] = [.int j] ∧ -(2 ^ 62) ≤ j ∧ j < 2 ^ 62 ∧ F j := ⟨n, rfl, h1, h2, h⟩
theorem w_rg2 {a b : Int} {F : Int → Int → Prop} (h1 : -(2 ^ 62) ≤ a ∧ a < 2 ^ 62 ∧ -(2 ^ 62) ≤ b ∧ b < 2 ^ 62) (h : F a b) : ∃ i j : Int, [V.int a, V.int b] = [.int i, .int j] ∧ (-(2 ^ 62) ≤ i ∧ i < 2 ^ 62 ∧ -(2 ^ 62) ≤ j ∧ j < 2 ^ 62) ∧ F i j := ⟨a, b, rfl, h1, h⟩
theorem w_iStr (h : te σ H fun v H1 => ∃ x, v = .str x ∧ R (Its x) H1) : iStr te σ H R := h
theorem w_strI {z : Str} {F : Str → Prop} (h : F z) : ∃ x, V.str z = .str x ∧ F x := ⟨z, rfl, h⟩
theorem w_iList (h : te σ H fun x H1 => ∃ a, x = .ref a ∧ (∃ xs, SqL K H1 a xs) ∧ R (Itl K a) H1) : iList K te σ H R := h
theorem w_lstI {a : Addr} {xs : List V} {F : Addr → Prop} (hs : SqL K H a xs) (h : F a) : ∃ b, V.ref a = .ref b ∧ (∃ xs, SqL K H b xs) ∧ F b := ⟨a, rfl, ⟨xs, hs⟩, h⟩
theorem w_iTup (h : te σ H fun x H1 => ∃ a, x = .ref a ∧ (∃ xs, SqT K H1 a xs) ∧ R (Itt K a) H1) : iTup K te σ H R := h
theorem w_tupI {a : Addr} {xs : List V} {F : Addr → Prop} (hs : SqT K H a xs) (h : F a) : ∃ b, V.ref a = .ref b ∧ (∃ xs, SqT K H b xs) ∧ F b := ⟨a, rfl, ⟨xs, hs⟩, h⟩
theorem for_str {l : List Nat} (Pv : Nat → St → Hp → Prop) (h0 : Pv 0 σ H)
    (hs : ∀ i c σ H, l[i]? = some c → Pv i σ H → g (.str ⟨#[c]⟩) σ H fun σ2 H2 => tb { D with nx := Pv (i + 1), ct := Pv (i + 1), bk := D.nx } σ2 H2) (hd : ∀ σ H, Pv l.length σ H → D.nx σ H) :
    ∃ W : Nat → Nat → St → Hp → Prop, (∃ m, W 0 m σ H) ∧ ∀ i m σ H, W i m σ H →
      ((Its (SX.S l)).stop i H ∧ D.nx σ H) ∨ ((Its (SX.S l)).go i H ∧ ∃ N : St → Hp → Prop, (∀ σ' H', N σ' H' → ∃ m', m' < m ∧ W (i + 1) m' σ' H') ∧ ∀ x H', (Its (SX.S l)).yld i H x H' → g x σ H' fun σ2 H2 => tb { D with nx := N, ct := N, bk := D.nx } σ2 H2) := by
  have sz : (SX.S l).cps.size = l.length := by simp [SX.S]
  refine ⟨fun i m σ H => m = l.length - i ∧ i ≤ l.length ∧ Pv i σ H, ⟨l.length, by simp, Nat.zero_le _, h0⟩, ?_⟩
  rintro i m σ H ⟨rfl, hi, p⟩
  by_cases hlt : i < l.length
  · refine .inr ⟨by show i < (SX.S l).cps.size; rw [sz]; exact hlt, Pv (i + 1), fun σ' H' p' => ⟨l.length - (i + 1), by omega, rfl, hlt, p'⟩, fun x H' y => ?_⟩
    obtain ⟨e, c, hc, rfl⟩ := y
    subst e
    refine hs i c σ _ ?_ p
    have : (SX.S l).cps[i]? = some c := hc
    simpa [SX.S] using this
  · have e : i = l.length := by omega
    subst e
    exact .inl ⟨by show (SX.S l).cps.size ≤ l.length; rw [sz]; exact Nat.le_refl _, hd σ H p⟩
theorem w_whl (W : Nat → St → Hp → Prop) (m0 : Nat) (h0 : W m0 σ H) (hs : ∀ m σ H, W m σ H → tc σ H fun b H1 => if b = true then ∃ N : St → Hp → Prop, (∀ σ' H', N σ' H' → ∃ m', m' < m ∧ W m' σ' H') ∧ tb { D with nx := N, ct := N, bk := D.nx } σ H1 else D.nx σ H1) : tWhile tc tb D σ H :=
  ⟨W, ⟨m0, h0⟩, hs⟩
theorem w_turn {W : Nat → St → Hp → Prop} {m : Nat} (h : tb { D with nx := fun σ' H' => ∃ m', m' < m ∧ W m' σ' H', ct := fun σ' H' => ∃ m', m' < m ∧ W m' σ' H', bk := D.nx } σ H) : ∃ N : St → Hp → Prop, (∀ σ' H', N σ' H' → ∃ m', m' < m ∧ W m' σ' H') ∧ tb { D with nx := N, ct := N, bk := D.nx } σ H := ⟨_, fun _ _ z => z, h⟩
end
/-! ### texts -/
theorem S_eq {a b : List Nat} : SX.S a = SX.S b ↔ a = b := ⟨SX.S_inj, fun e => by rw [e]⟩
theorem S_ofs {s : String} {l : List Nat} (h : (Str.ofString s).cps.toList = l) : Str.ofString s = SX.S l := by
  rw [← h, SX.S_tl]
theorem S_get (l : List Nat) : (SX.S l).cps.toList = l := by simp [SX.S]
theorem inV_S (a : List Nat) : ∀ rs : List (List Nat), inV (.str (SX.S a)) (rs.map fun r => V.str (SX.S r)) = decide (a ∈ rs)
  | [] => rfl
  | r :: rs => by
    have ih := inV_S a rs
    unfold inV at ih ⊢
    rw [List.map_cons, List.any_cons, ih]
    show ((SX.S r == SX.S a) || decide (a ∈ rs)) = decide (a ∈ r :: rs)
    rw [SX.S_beq_eq]
    by_cases h : a = r
    · subst h; simp
    · have h' : ¬ r = a := fun z => h z.symm
      simp [h, h']
theorem flat_S (rs : List (List Nat)) : (rs.map fun r => V.str (SX.S r)).all flatV = true := by
  rw [List.all_map]
  exact List.all_eq_true.mpr fun _ _ => rfl
/-- x in a table of texts -/
theorem w_inTab {K : PySem.W.Frag} {H : Hp} {Q : VK} {p : Addr} {a : List Nat} {xs : List V} {rs : List (List Nat)} (hs : SqT K H p xs) (e : xs = rs.map fun r => V.str (SX.S r)) (h : Q (.bl (decide (a ∈ rs))) H) : rIn K false (.str (SX.S a)) (.ref p) H Q := by
  subst e
  refine ⟨p, _, rfl, .inr hs, rfl, flat_S rs, ?_⟩
  rw [inV_S]
  exact h
theorem w_inLst {K : PySem.W.Frag} {H : Hp} {Q : VK} {p : Addr} {a : List Nat} {xs : List V} {rs : List (List Nat)} (hs : SqL K H p xs) (e : xs = rs.map fun r => V.str (SX.S r)) (h : Q (.bl (decide (a ∈ rs))) H) : rIn K false (.str (SX.S a)) (.ref p) H Q := by
  subst e
  refine ⟨p, _, rfl, .inl hs, rfl, flat_S rs, ?_⟩
  rw [inV_S]
  exact h
/-- slices of texts: a whole number from 0 on, on both sides -/
theorem cut_S (l : List Nat) (a b : Option Nat) : cutS (SX.S l) (a.map Int.ofNat) (b.map Int.ofNat) = SX.S ((l.drop (a.getD 0)).take (b.getD l.length - a.getD 0)) := by
  have hl : (SX.S l).length = l.length := SX.S_len l
  have six : ∀ (n d : Nat) (o : Option Nat), d ≤ n → HT.sIx n d (o.map Int.ofNat) = min (o.getD d) n := by
    intro n d o hd
    cases o with
    | none => show d = min d n; omega
    | some k => exact HT.sIx_nat n d k
  unfold cutS
  rw [hl, six _ _ _ (Nat.zero_le _), six _ _ _ (Nat.le_refl _), S_get]
  congr 1
  apply congrArg
  apply List.ext_getElem?
  intro i
  simp only [List.getElem?_take, List.getElem?_drop]
  by_cases h1 : i < min (b.getD l.length) l.length - min (a.getD 0) l.length
  · rw [if_pos h1, if_pos (by omega), show min (a.getD 0) l.length + i = a.getD 0 + i by omega]
  · rw [if_neg h1]
    by_cases h2 : i < b.getD l.length - a.getD 0
    · rw [if_pos h2, List.getElem?_eq_none (by omega)]
    · rw [if_neg h2]
theorem w_cutS {H : Hp} {Q : VK} {l : List Nat} {a b : Nat} (hz : l.length ≤ sizeLine) (h : Q (.str (SX.S ((l.drop a).take (b - a)))) H) : rSlS (.str (SX.S l)) (some (a : Int)) (some (b : Int)) H Q :=
  ⟨_, rfl, by rw [SX.S_len]; exact hz, by have e := cut_S l (some a) (some b); rw [show (some (a : Int)) = (some a).map Int.ofNat from rfl, show (some (b : Int)) = (some b).map Int.ofNat from rfl, e]; exact h⟩
theorem w_cutTo {H : Hp} {Q : VK} {l : List Nat} {b : Nat} (hz : l.length ≤ sizeLine) (h : Q (.str (SX.S (l.take b))) H) : rSlS (.str (SX.S l)) none (some (b : Int)) H Q :=
  ⟨_, rfl, by rw [SX.S_len]; exact hz, by have e := cut_S l none (some b); rw [show (none : Option Int) = (none : Option Nat).map Int.ofNat from rfl, show (some (b : Int)) = (some b).map Int.ofNat from rfl, e]; exact h⟩
theorem w_cutFrom {H : Hp} {Q : VK} {l : List Nat} {a : Nat} (hz : l.length ≤ sizeLine) (h : Q (.str (SX.S (l.drop a))) H) : rSlS (.str (SX.S l)) (some (a : Int)) none H Q :=
  ⟨_, rfl, by rw [SX.S_len]; exact hz, by
    have e := cut_S l (some a) none
    rw [show (some (a : Int)) = (some a).map Int.ofNat from rfl, show (none : Option Int) = (none : Option Nat).map Int.ofNat from rfl, e]
    have z : (l.drop ((some a).getD 0)).take ((none : Option Nat).getD l.length - (some a).getD 0) = l.drop a := by
      show (l.drop a).take (l.length - a) = l.drop a
      exact List.take_of_length_le (by rw [List.length_drop]; omega)
    rw [z]; exact h⟩
theorem S_app (a b : List Nat) : SX.S a ++ SX.S b = SX.S (a ++ b) := SX.S_cat a b
theorem w_catT {H : Hp} {Q : VK} {a b : List Nat} (hz : a.length + b.length ≤ sizeLine) (h : Q (.str (SX.S (a ++ b))) H) : rCatS (.str (SX.S a)) (.str (SX.S b)) H Q := ⟨_, _, rfl, rfl, by rw [SX.S_len, SX.S_len]; exact hz, by rw [S_app]; exact h⟩
theorem w_lenS {H : Hp} {Q : VK} {l : List Nat} (hz : l.length ≤ sizeLine) (h : Q (.int (l.length : Int)) H) : rLenT [.str (SX.S l)] H Q := ⟨_, rfl, by rw [SX.S_len]; exact hz, by rw [SX.S_len]; exact h⟩
theorem w_eqT {H : Hp} {Q : VK} {a b : List Nat} (h : Q (.bl (decide (a = b))) H) : rEq (.str (SX.S a)) (.str (SX.S b)) H Q := ⟨rfl, by
  have e : decide (V.str (SX.S a) = V.str (SX.S b)) = decide (a = b) := by
    by_cases z : a = b
    · subst z; simp
    · simp only [V.str.injEq, S_eq]
  rw [e]; exact h⟩
theorem w_neT {H : Hp} {Q : VK} {a b : List Nat} (h : Q (.bl (!decide (a = b))) H) : rNe (.str (SX.S a)) (.str (SX.S b)) H Q := ⟨rfl, by
  have e : decide (V.str (SX.S a) = V.str (SX.S b)) = decide (a = b) := by
    by_cases z : a = b
    · subst z; simp
    · simp only [V.str.injEq, S_eq]
  rw [e]; exact h⟩
theorem w_inS {H : Hp} {Q : VK} {c : Nat} {l : List Nat} (h : Q (.bl (decide (c ∈ l))) H) : rInC (.str ⟨#[c]⟩) (.str (SX.S l)) H Q := ⟨c, _, rfl, rfl, by rw [S_get]; exact h⟩
theorem w_ninS {H : Hp} {Q : VK} {c : Nat} {l : List Nat} (h : Q (.bl (!decide (c ∈ l))) H) : rNotInC (.str ⟨#[c]⟩) (.str (SX.S l)) H Q := ⟨c, _, rfl, rfl, by rw [S_get]; exact h⟩
theorem flatten_rep (xs : Array Nat) : ∀ (n : Nat) (acc : Array Nat), ((List.replicate n xs).foldl (· ++ ·) acc).toList = acc.toList ++ (List.replicate n xs.toList).flatten
  | 0, acc => by simp
  | n + 1, acc => by
    rw [List.replicate_succ, List.foldl_cons, flatten_rep xs n, Array.toList_append, List.replicate_succ, List.flatten_cons, List.append_assoc]
theorem mul_S (l : List Nat) (n : Nat) : Txt.mul (SX.S l) (n : Int) = SX.S ((List.replicate n l).flatten) := by
  unfold Txt.mul
  by_cases h1 : (n : Int) < 1
  · rw [if_pos h1]
    have e : n = 0 := by omega
    subst e; rfl
  · rw [if_neg h1]
    by_cases h2 : ((n : Int) == 1 || (SX.S l).length == 0) = true
    · rw [if_pos h2]
      rw [Bool.or_eq_true, beq_iff_eq, beq_iff_eq, SX.S_len] at h2
      rcases h2 with h2 | h2
      · have e : n = 1 := by omega
        subst e; simp
      · have e : l = [] := List.length_eq_zero_iff.mp h2
        subst e
        have z : (List.replicate n ([] : List Nat)).flatten = [] := by simp
        rw [z]
    · rw [if_neg h2, Int.toNat_natCast]
      have e := flatten_rep (SX.S l).cps n #[]
      rw [S_get] at e
      show (⟨_⟩ : Str) = SX.S _
      apply TL.ext_tl
      show ((List.replicate n (SX.S l).cps).foldl (· ++ ·) #[]).toList = _
      rw [e]
      simp [TL.tl, SX.S]
theorem w_repT {H : Hp} {Q : VK} {l : List Nat} {n : Nat} (hz : l.length * n ≤ 1000000) (h : Q (.str (SX.S ((List.replicate n l).flatten))) H) (hn : n ≤ 1000000 := by omega) : rRepS (.str (SX.S l)) (.int (n : Int)) H Q := by
  refine ⟨_, _, rfl, rfl, ⟨?_, fun h1 h2 => ?_, fun h1 h2 => ?_⟩, by rw [mul_S]; exact h⟩
  · rw [decide_eq_false (by omega), decide_eq_false (by omega)]; rfl
  · rw [SX.S_len]
    have h3 : (0 : Int) < n := by omega
    have h4 : (l.length : Int) * n ≤ 1000000 := by
      have z : ((l.length * n : Nat) : Int) ≤ ((1000000 : Nat) : Int) := Int.ofNat_le.mpr hz
      rw [Int.natCast_mul] at z
      exact z
    have h5 : (l.length : Int) ≤ (2 ^ 63 - 1) / (n : Int) := Int.le_ediv_of_mul_le h3 (by omega)
    omega
  · rw [SX.S_len, Int.toNat_natCast]
    show decide (l.length * n > sizeLine) = false
    rw [sizeLine_eq]
    exact decide_eq_false (by omega)
/-! ### isinstance -/
theorem w_isi {K : PySem.W.Frag} {H : Hp} {Q : VK} {x : V} {t : Value} {n : String} {b : Bool} (ty : TyX K H x t) (k : PySem.W.kitOne K t (.type n) = some b) (h : Q (.bl b) H) : rIsi K [x, .ty n] H Q := ⟨x, .ty n, t, .type n, b, rfl, .ty n, ty, k, h⟩
theorem kit_ss {K : PySem.W.Frag} : PySem.W.kitOne K (.type "str") (.type "str") = some true := kit_ty (by decide +kernel)
theorem kit_ii {K : PySem.W.Frag} : PySem.W.kitOne K (.type "int") (.type "int") = some true := kit_ty (by decide +kernel)
theorem kit_ib {K : PySem.W.Frag} : PySem.W.kitOne K (.type "int") (.type "bool") = some false := kit_ty (by decide +kernel)
theorem kit_tt {K : PySem.W.Frag} : PySem.W.kitOne K (.type "tuple") (.type "tuple") = some true := kit_ty (by decide +kernel)
end L2

/-! Steps for comprehensions, list slices, list sums. -/
namespace L2
open PySem PySem.Spec PyProof.Rows
section
variable {σ : St} {H : Hp} {Q : VK} {QB : Bool → Hp → Prop} {K : PySem.W.Frag} {D : Ends}
theorem w_yes (h : QB true H) : tYes σ H QB := h
theorem w_lc {wi : TI} {g : TG} {tt : TT} {te : TE} {vs : List Nat} (h : wi σ H fun J H1 => ∀ D, H1 D = none → ∃ W : Nat → Nat → Hp → Prop, (∃ m, W 0 m (upd H1 D (.lst []))) ∧ ∀ i m H, W i m H →
  (J.stop i H ∧ Q (.ref D) H) ∨ (J.go i H ∧ ∃ Nx : Hp → Prop, (∀ H', Nx H' → ∃ m', m' < m ∧ W (i + 1) m' H') ∧ ∀ x H', J.yld i H x H' → g x (wipe σ vs) H' fun σ2 H2 => wipe σ2 vs = wipe σ vs ∧ tt σ2 H2 fun b H3 =>
    if b = true then te σ2 H3 fun y H4 => ∃ acc, H4 D = some (.lst acc) ∧ acc.length < sizeLine ∧ Nx (upd H4 D (.lst (acc ++ [y]))) else Nx H3)) : tLc wi g tt te vs σ H Q := h
theorem w_neg {f : Int → V} {a : Int} (h : Q (f a) H) : rU f (.int a) H Q := ⟨a, rfl, h⟩
theorem cut_V (l : List V) (a b : Option Nat) : cutV l (a.map Int.ofNat) (b.map Int.ofNat) = (l.drop (a.getD 0)).take (b.getD l.length - a.getD 0) := by
  have six : ∀ (n d : Nat) (o : Option Nat), d ≤ n → HT.sIx n d (o.map Int.ofNat) = min (o.getD d) n := by
    intro n d o hd
    cases o with
    | none => show d = min d n; omega
    | some k => exact HT.sIx_nat n d k
  unfold cutV
  rw [six _ _ _ (Nat.zero_le _), six _ _ _ (Nat.le_refl _)]
  apply List.ext_getElem?
  intro i
  simp only [List.getElem?_take, List.getElem?_drop]
  by_cases h1 : i < min (b.getD l.length) l.length - min (a.getD 0) l.length
  · rw [if_pos h1, if_pos (by omega), show min (a.getD 0) l.length + i = a.getD 0 + i by omega]
  · rw [if_neg h1]
    by_cases h2 : i < b.getD l.length - a.getD 0
    · rw [if_pos h2, List.getElem?_eq_none (by omega)]
    · rw [if_neg h2]
theorem cut_to (l : List V) (b : Nat) : cutV l none (some (b : Int)) = l.take b := cut_V l none (some b)
theorem cut_from (l : List V) (a : Nat) : cutV l (some (a : Int)) none = l.drop a := by
  have e := cut_V l (some a) none
  have z : (l.drop ((some a).getD 0)).take ((none : Option Nat).getD l.length - (some a).getD 0) = l.drop a := by
    show (l.drop a).take (l.length - a) = l.drop a
    exact List.take_of_length_le (by rw [List.length_drop]; omega)
  rw [z] at e
  exact e
theorem cut_mid (l : List V) (a b : Nat) : cutV l (some (a : Int)) (some (b : Int)) = (l.drop a).take (b - a) := cut_V l (some a) (some b)
theorem w_lTo {p : Addr} {l : List V} {b : Nat} (hs : SqL K H p l) (h : ∀ q, H q = none → Q (.ref q) (upd H q (.lst (l.take b)))) : rSlL K (.ref p) none (some (b : Int)) H Q := ⟨p, l, rfl, hs, by rw [cut_to]; exact h⟩
theorem w_lFrom {p : Addr} {l : List V} {a : Nat} (hs : SqL K H p l) (h : ∀ q, H q = none → Q (.ref q) (upd H q (.lst (l.drop a)))) : rSlL K (.ref p) (some (a : Int)) none H Q := ⟨p, l, rfl, hs, by rw [cut_from]; exact h⟩
theorem w_lMid {p : Addr} {l : List V} {a b : Nat} (hs : SqL K H p l) (h : ∀ q, H q = none → Q (.ref q) (upd H q (.lst ((l.drop a).take (b - a))))) : rSlL K (.ref p) (some (a : Int)) (some (b : Int)) H Q := ⟨p, l, rfl, hs, by rw [cut_mid]; exact h⟩
theorem w_catL {p q : Addr} {xs zs : List V} (hp : H p = some (.lst xs)) (hq : H q = some (.lst zs)) (hz : xs.length + zs.length ≤ sizeLine) (h : ∀ t, H t = none → Q (.ref t) (upd H t (.lst (xs ++ zs)))) : rCat (.ref p) (.ref q) H Q := ⟨p, q, xs, zs, rfl, rfl, hp, hq, hz, h⟩
end
end L2

/-! The head's facts: defs, names, tables, and exception classes with their __init__ -/
namespace HallHt
open PySem PySem.Spec PyProof.Rows L2 PySem.HallX
def cAd (K : PySem.W.Frag) (x : Str) : Addr := He.ga K x
def iAd (K : PySem.W.Frag) (x : Str) : Addr := He.ma K (He.ga K x) "__init__"
def initFd (K : PySem.W.Frag) (x : Str) : Option FuncData := match K.lookup (iAd K x) with
  | some ⟨_, _, .func fd, _⟩ => some fd
  | _ => none
def codeAd (K : PySem.W.Frag) (x : Str) : Addr := match initFd K x with
  | some fd => (match fd.code with
    | .ref a => a
    | _ => 0)
  | none => 0
def cellAd (K : PySem.W.Frag) (x : Str) : Addr := match initFd K x with
  | some fd => (match fd.closure with
    | [(_, c)] => c
    | _ => 0)
  | none => 0
abbrev FnH : Type := Option (Str × Str × Arguments × FuncBody × Scope × Addr × Addr)
def fnH (K : PySem.W.Frag) (x : Str) : FnH := (initFd K x).map fun fd => (fd.name, fd.qualname, fd.params, fd.body, fd.scope, fd.globals, fd.builtins)
structure HallD where
  x : Str
  fld : Str
  qual : Str
  params : Arguments
  body : List Stmt
  scope : Scope
def HallD.val (d : HallD) : FnH := some ("__init__", d.qual, d.params, .stmts d.body, d.scope, mainGlobals, builtinsNs)
def clsB (K : PySem.W.Frag) (C : Addr) : Bool := match K.lookup C with
  | some ⟨.type "type", _, .cls cd, sl⟩ => (match cd.mro, sl.toList with
    | .ref C' :: bm, [_, _, _, _, some (.builtin n), _] => C' == C && n == "ValueError.__new__" && !cd.hasDel && cd.hasDict && PySem.HandSPX.refsVE bm
    | _, _ => false)
  | _ => false
theorem clsB_ok {K : PySem.W.Frag} {C : Addr} (q : clsB K C = true) : ∃ nm q N bs bm sn sub ab col dd k0 k1 k2 k3 k5, K.lookup C = some (excClassObj nm q C N bs bm true sn sub ab col dd k0 k1 k2 k3 k5 "ValueError.__new__") ∧ PySem.HandSPX.refsVE bm = true := by
  unfold clsB at q
  split at q
  · rename_i dd cd sl ho
    split at q
    · rename_i C' bm k0 k1 k2 k3 n k5 hm hs
      simp only [Bool.and_eq_true, beq_iff_eq, Bool.not_eq_true'] at q
      obtain ⟨⟨⟨⟨rfl, rfl⟩, hdel⟩, hdct⟩, ht⟩ := q
      obtain ⟨nm, bs, mro, ns, qn, hd, sn, sub, ab, col, del⟩ := cd
      dsimp only at hm hdel hdct
      subst hm hdel hdct
      have hsl : sl = #[k0, k1, k2, k3, some (.builtin "ValueError.__new__"), k5] := by
        obtain ⟨l⟩ := sl
        simp only at hs
        rw [hs]
      subst hsl
      exact ⟨nm, qn, ns, bs, bm, sn, sub, ab, col, dd, k0, k1, k2, k3, k5, ho, ht⟩
    · cases q
  · cases q
def noFld (K : PySem.W.Frag) (d : HallD) : Bool := decide (PySem.W.findIn K (.ref (cAd K d.x)) d.fld = some none)
def hallB (file : Str) (K : PySem.W.Frag) (d : HallD) : Bool :=
  He.eqO (PySem.W.nsIn K mainGlobals d.x) (some (some (.ref (cAd K d.x))))
  && (clsB K (cAd K d.x)
  && (decide (PySem.W.ks_superIn K (cAd K d.x) (cAd K d.x) "__init__" = some (some (.builtin "ValueError.__init__")))
  && (decide (PySem.W.findIn K (.ref (cAd K d.x)) "__setattr__" = some (some (.builtin "object.__setattr__")))
  && (decide (PySem.W.findIn K (.ref (cAd K d.x)) "__getattribute__" = some (some (.builtin "BaseException.__getattribute__")))
  && (decide (PySem.W.findIn K (.ref (cAd K d.x)) "__getattr__" = some none)
  && (decide (PySem.W.findIn K (.ref (cAd K d.x)) "__init__" = some (some (.ref (iAd K d.x))))
  && (decide (PySem.W.typeIn K (.ref (iAd K d.x)) = some (.type "function"))
  && (PySem.W.keepIn K (.ref (cAd K d.x))
  && (decide (PySem.W.subIn K (.ref (cAd K d.x)) (.type "BaseException") = some true)
  && (decide (PySem.W.typeIn K (.ref (cAd K d.x)) = some (.type "type"))
  && (PySem.W.hasDictIn K (cAd K d.x)
  && (decide (PySem.W.subIn K (.ref (cAd K d.x)) (.type "ValueError") = some true)
  && (decide (PySem.W.mroIn K (cAd K d.x) (.ref (cAd K d.x)) = some true)
  && ((match initFd K d.x with
    | some fd => decide (fd.closure = [(("__class__" : Str), cellAd K d.x)]) && (decide (fd.code = .ref (codeAd K d.x)) && decide (fd.defaults = Value.none))
    | none => false)
  && (PySem.W.codeIn K (.ref (codeAd K d.x)) d.qual
  && ((match K.lookup (codeAd K d.x) with
    | some ⟨_, _, .fields vs, _⟩ => (match (vs : Array Value)[2]? with
      | some (Value.str f _) => decide (f = file)
      | _ => false)
    | _ => false)
  && ((match K.lookup (cellAd K d.x) with
    | some ⟨_, _, .cell (some (.ref C)), _⟩ => decide (C = cAd K d.x)
    | _ => false)
  && (decide (PySem.W.nsIn K cStatics "thirdparty.any" = some none)
  && (He.eqO (PySem.W.nsIn K mainGlobals "super") (some none)
  && (decide (PySem.W.findIn K (.ref (cAd K d.x)) "__class__" = some (some (.builtin "object.__class__")))
  && (decide (PySem.W.specialIn K (.builtin "object.__class__") "__get__" = some (some (.builtin "getset_descriptor.__get__")))
  && (decide (PySem.W.takesIn K (.builtin "object.__class__") = some true)
  && decide (PySem.W.mroIn K (cAd K d.x) (.type "object") = some true)))))))))))))))))))))))
theorem ba {a b : Bool} (h : (a && b) = true) : a = true ∧ b = true := Bool.and_eq_true_iff.mp h
theorem hall_of {prog : Program} {K : PySem.W.Frag} {h : Heap} {mg : Str → Option Value} {d : HallD} (X : K.In h) (G : h.Ns mainGlobals mg) (e : fnH K d.x = d.val) (q : hallB prog.main.file K d = true) (t0 : (prog.main.scope.names.lookup ("super" : Str)).isSome = false) :
    HallTxt prog K mg d.x (cAd K d.x) (iAd K d.x) (cellAd K d.x) (codeAd K d.x) d.qual d.params d.body d.scope ∧ ExcC K (cAd K d.x) := by
  obtain ⟨c1, q⟩ := ba q
  obtain ⟨c2, q⟩ := ba q
  obtain ⟨c3, q⟩ := ba q
  obtain ⟨c4, q⟩ := ba q
  obtain ⟨c5, q⟩ := ba q
  obtain ⟨c6, q⟩ := ba q
  obtain ⟨c7, q⟩ := ba q
  obtain ⟨c8, q⟩ := ba q
  obtain ⟨c9, q⟩ := ba q
  obtain ⟨c10, q⟩ := ba q
  obtain ⟨c11, q⟩ := ba q
  obtain ⟨c12, q⟩ := ba q
  obtain ⟨c13, q⟩ := ba q
  obtain ⟨c14, q⟩ := ba q
  obtain ⟨c15, q⟩ := ba q
  obtain ⟨c16, q⟩ := ba q
  obtain ⟨c17, q⟩ := ba q
  obtain ⟨c18, q⟩ := ba q
  obtain ⟨c19, q⟩ := ba q
  obtain ⟨c20, q⟩ := ba q
  obtain ⟨c21, q⟩ := ba q
  obtain ⟨c22, q⟩ := ba q
  obtain ⟨c23, c24⟩ := ba q
  refine ⟨{ gC := PySem.W.mg_of X G (He.eqO_ok c1), cls := clsB_ok c2, «sup» := of_decide_eq_true c3, sa := of_decide_eq_true c4, ga := of_decide_eq_true c5, gg := of_decide_eq_true c6, iC := of_decide_eq_true c7, tI := of_decide_eq_true c8, kC := c9, exC := of_decide_eq_true c10, tyC := of_decide_eq_true c11, hdC := c12, ve := of_decide_eq_true c13, self := of_decide_eq_true c14, fn := ?_, code := ?_, cell := ?_, stat := of_decide_eq_true c19, sup0 := PySem.W.mg_none_of X G (He.eqO_ok c20), top0 := t0 }, { hg := of_decide_eq_true c5, hk := of_decide_eq_true c6, hs := of_decide_eq_true c10, hd := c12, ha := of_decide_eq_true c21, hn := of_decide_eq_true c22, ht := of_decide_eq_true c23, hm := of_decide_eq_true c24 }⟩
  · unfold fnH at e
    cases q1 : initFd K d.x with
    | none =>
      rw [q1] at c15
      cases c15
    | some fd =>
      rw [q1] at c15 e
      obtain ⟨w1, w2⟩ := ba c15
      obtain ⟨w3, w4⟩ := ba w2
      have d1 := of_decide_eq_true w1
      have d2 := of_decide_eq_true w3
      have d3 := of_decide_eq_true w4
      clear w1 w2 w3 w4 c15
      have q2 : ∃ oc od osl, K.lookup (iAd K d.x) = some ⟨oc, od, .func fd, osl⟩ := by
        unfold initFd at q1
        split at q1
        · rename_i oc od fd' osl ho
          cases q1
          exact ⟨oc, od, osl, ho⟩
        · cases q1
      obtain ⟨oc, od, osl, ho⟩ := q2
      obtain ⟨n1, n2, n3, n4, n5, n6, n7, n8, n9, n10, n11, n12, n13, n14, n15⟩ := fd
      have e2 : (some (n1, n2, n3, n4, n5, n6, n15) : FnH) = some (("__init__" : Str), d.qual, d.params, FuncBody.stmts d.body, d.scope, mainGlobals, builtinsNs) := e
      simp only [Option.some.injEq, Prod.mk.injEq] at e2
      obtain ⟨h1, h2, h3, h4, h5, h6, h7⟩ := e2
      dsimp only at d1 d2 d3
      subst h1 h2 h3 h4 h5 h6 h7 d1 d2
      exact ⟨oc, od, n8, n9, n10, n11, n12, n14, osl, ho, c16, d3⟩
  · cases q1 : K.lookup (codeAd K d.x) with
    | none =>
      rw [q1] at c17
      cases c17
    | some o =>
      obtain ⟨oc, od, dt, osl⟩ := o
      rw [q1] at c17
      cases dt with
      | fields vs =>
        have c18 : (match (vs : Array Value)[2]? with
          | some (Value.str f _) => decide (f = prog.main.file)
          | _ => false) = true := c17
        cases q2 : vs[2]? with
        | none =>
          rw [q2] at c18
          cases c18
        | some v =>
          rw [q2] at c18
          cases v with
          | str f t =>
            have ef : f = prog.main.file := of_decide_eq_true c18
            rw [ef] at q2
            exact ⟨oc, od, vs, osl, t, rfl, q2⟩
          | _ => cases c18
      | _ => cases c17
  · cases q1 : K.lookup (cellAd K d.x) with
    | none =>
      rw [q1] at c18
      cases c18
    | some o =>
      obtain ⟨oc, od, dt, osl⟩ := o
      rw [q1] at c18
      cases dt with
      | cell v =>
        cases v with
        | none => cases c18
        | some v =>
          cases v with
          | ref C =>
            have ec : C = cAd K d.x := of_decide_eq_true c18
            subst ec
            exact ⟨oc, od, osl, rfl⟩
          | _ => cases c18
      | _ => cases c18
theorem noFld_ok {K : PySem.W.Frag} {d : HallD} (h : noFld K d = true) : PySem.W.findIn K (.ref (cAd K d.x)) d.fld = some none := of_decide_eq_true h
/-! ### the Hook -/
abbrev AlH : Type := He.AlD × Bool × List FnH × List (Option (List (Option (Str × Int))))
def kOf (n : Nat) (g : Addr → Option Obj) : PySem.W.Frag := He.frG g (He.asD g n ++ [cStatics])
def obsH (fa : List He.Fa) (fn : List He.DefD) (hs : List HallD) (ex : PySem.W.Frag → Bool) (ts : List He.Tab) (K : PySem.W.Frag) : AlH := (He.obsD fa fn K, ex K, hs.map fun d => fnH K d.x, ts.map fun t => He.dicW K (t.1 K))
def valH (fn : List He.DefD) (hs : List HallD) (ts : List He.Tab) (w : World) : AlH := (He.valD fn, true, hs.map HallD.val, ts.map fun t => some (He.keysIn w.params t.2))
def obsHG (n : Nat) (fa : List He.Fa) (fn : List He.DefD) (hs : List HallD) (ex : PySem.W.Frag → Bool) (ts : List He.Tab) (g : Addr → Option Obj) : AlH := obsH fa fn hs ex ts (kOf n g)
def SaysH (fa : List He.Fa) (fn : List He.DefD) (hs : List HallD) (ex : PySem.W.Frag → Bool) (ts : List He.Tab) (w : World) (K : PySem.W.Frag) : Prop := obsH fa fn hs ex ts K = valH fn hs ts w
def hookH (n : Nat) (fa : List He.Fa) (fn : List He.DefD) (hs : List HallD) (ex : PySem.W.Frag → Bool) (ts : List He.Tab) : PySem.W.Hook where
  α := AlH
  obs := fun s => obsHG n fa fn hs ex ts s.heap.get?
  val := fun w => valH fn hs ts w
  says := fun w h => ∃ K : PySem.W.Frag, K.In h ∧ SaysH fa fn hs ex ts w K
  of := fun _ _ e => ⟨_, He.frG_in, e⟩
  keeps := fun _ _ _ ⟨K, hK, c⟩ k => ⟨K, PySem.W.Frag.In.keeps hK k, c⟩
theorem obsHG_eq {n : Nat} {fa : List He.Fa} {fn : List He.DefD} {hs : List HallD} {ex : PySem.W.Frag → Bool} {ts : List He.Tab} {g : Addr → Option Obj} {s : Shared} (h : ∀ a, g a = s.heap.get? a) : obsHG n fa fn hs ex ts g = (hookH n fa fn hs ex ts).obs s := by
  have e : g = s.heap.get? := funext h
  rw [e] <;> rfl
section
variable {fa : List He.Fa} {fn : List He.DefD} {hs : List HallD} {ex : PySem.W.Frag → Bool} {ts : List He.Tab} {w : World} {K : PySem.W.Frag}
theorem SaysH.tab (c : SaysH fa fn hs ex ts w K) (i : Nat) {t : He.Tab} (h : ts[i]? = some t := by rfl) : He.dicW K (t.1 K) = some (He.keysIn w.params t.2) := by
  have e : ts.map (fun t => He.dicW K (t.1 K)) = ts.map fun t => some (He.keysIn w.params t.2) := congrArg (fun z : AlH => z.2.2.2) c
  have e2 : (ts.map fun t => He.dicW K (t.1 K))[i]? = (ts.map fun t => some (He.keysIn w.params t.2))[i]? := by rw [e]
  rw [List.getElem?_map, List.getElem?_map, h] at e2
  exact Option.some.inj e2
theorem SaysH.d (c : SaysH fa fn hs ex ts w K) : He.SaysD fa fn K := congrArg (fun z : AlH => z.1) c
theorem SaysH.more (c : SaysH fa fn hs ex ts w K) : ex K = true := congrArg (fun z : AlH => z.2.1) c
theorem SaysH.hall (c : SaysH fa fn hs ex ts w K) (i : Nat) {d : HallD} (h : hs[i]? = some d := by rfl) : fnH K d.x = d.val := by
  have e : hs.map (fun d => fnH K d.x) = hs.map HallD.val := congrArg (fun z : AlH => z.2.2.1) c
  have e2 : (hs.map fun d => fnH K d.x)[i]? = (hs.map HallD.val)[i]? := by rw [e]
  rw [List.getElem?_map, List.getElem?_map, h] at e2
  exact Option.some.inj e2
end
/-- a table of the top with text keys: its keys' answers -/
structure TxtD (K : PySem.W.Frag) (w : World) (d : Addr) (kvs : List (Str × He.Dv)) : Prop where
  ex : ∃ es n, KDict K w d es n
  has : ∀ p ∈ kvs, ∃ u, PySem.W.nsIn K d p.1 = some (some u) ∧ RelV (p.2.v K) u
  not : ∀ z, z ∉ kvs.map (·.1) → PySem.W.nsIn K d z = some none
theorem keys_of {P : Params} : ∀ {l : List DictEntry} {ks : List Str}, l.map He.keyOf = He.keysIn P ks → ∀ e ∈ l, ∃ x t, e.key = .str x t ∧ x ∈ ks
  | [], _, _, e, h => by cases h
  | _ :: _, [], h, _, _ => by cases h
  | e :: r, k :: ks, h, e', he => by
    have h1 : He.keyOf e :: r.map He.keyOf = some (k, PyData.keyHash P k) :: He.keysIn P ks := h
    injection h1 with h2 h3
    rcases List.mem_cons.mp he with rfl | he
    · unfold He.keyOf at h2
      split at h2
      · rename_i x t q
        have h4 := Option.some.inj h2
        obtain ⟨h5, h6⟩ := Prod.mk.inj h4
        exact ⟨x, t, q, by rw [h5]; exact List.mem_cons_self⟩
      · cases h2
    · obtain ⟨x, t, q, m⟩ := keys_of h3 e' he
      exact ⟨x, t, q, List.mem_cons_of_mem _ m⟩
theorem txtD_of {K : PySem.W.Frag} {w : World} {d : Addr} {kvs : List (Str × He.Dv)} (h : He.dicW K d = some (He.keysIn w.params (kvs.map (·.1)))) (hv : He.valsB K d kvs = true) : TxtD K w d kvs := by
  obtain ⟨es, n, D⟩ := He.dicW_ok h
  refine ⟨⟨es, n, D⟩, fun p hp => He.valsB_ok hv hp, fun z hz => ?_⟩
  have h2 : es.toList.map He.keyOf = He.keysIn w.params (kvs.map (·.1)) := by
    unfold He.dicW at h
    rw [D.at_] at h
    dsimp only at h
    split at h
    · exact Option.some.inj h
    · cases h
  have hk := keys_of h2
  unfold PySem.W.nsIn
  rw [D.at_]
  dsimp only
  have e1 : es.toList.find? (·.key.isStr z) = none := by
    rw [List.find?_eq_none]
    intro e he hz'
    obtain ⟨x, t, q, m⟩ := hk e he
    rw [q] at hz'
    have : x = z := by
      have := hz'
      unfold Value.isStr at this
      simpa using this
    subst this
    exact hz m
  rw [e1]
  dsimp only
  have e2 : es.toList.any (·.refKey) = false := by
    rw [List.any_eq_false]
    intro e he hz'
    obtain ⟨x, t, q, m⟩ := hk e he
    unfold DictEntry.refKey at hz'
    rw [q] at hz'
    cases hz'
  rw [e2]
  rfl
/-- the i-th top statement's class: the j-th statement of its body -/
def inCls (s : Stmt) (j : Nat) : Stmt := inClass s j
end HallHt

/-! Objects, texts' methods, dicts: more words of my own over HandS. -/
namespace L2
open PySem PySem.Spec PyProof.Rows SX TL PySem.StrLaws PySem.Builtin.Str
/-! ### methods and makers that may be called -/
structure MetX (P : Program) (w : World) (K : PySem.W.Frag) (mg : Str → Option Value) (base : Heap) (CX : CXT) (k : Nat) (C : Addr) (m : Str) (sp : Sp) : Prop where
  ex : ∃ (f : Addr) (fd : FuncData) (ps : List Str), FnOk P w K mg base CX k f fd ps sp ∧ Meth K C m f ∧ Binds K fd ps []
structure MakX (P : Program) (w : World) (K : PySem.W.Frag) (mg : Str → Option Value) (base : Heap) (CX : CXT) (k : Nat) (C : Addr) (sp : Sp) : Prop where
  ex : ∃ (f : Addr) (fd : FuncData) (ps : List Str), FnOk P w K mg base CX k f fd ps sp ∧ Mk K C f ∧ Binds K fd ps []
section
variable {X : Cx} {CX : CXT} {k j : Nat} {C : Addr} {x m : Str} {sp : Sp} {p pos apos : Pos} {e o : Expr} {es : List Expr} {ta : TE} {t : TA} {E : XK}
theorem pe_mx {pl : Sem Bool} (M : MetX X.prog X.w X.K X.mg X.base CX k C m sp) (he : PE X o ta) (c : Cls X.K C) (hr : Room j X.A) (hk : k ≤ j) (hx : Passes CX X E) (ha : PA X (e :: es) t)
    (hst : starEach (e :: es) X.env = (false, eval e X.env) :: starEach es X.env := by rfl) (hpl : (backTo pos (starEach es X.env)).any (·.1) = false := by rfl)
    (ht : eval (.Call (.Attribute o m apos) (e :: es) [] pos) X.env = (do
      let ov ← eval o X.env
      standAt apos.atName
      let (f, first) ← holding [ov] (getMethod ov m pl)
      callWith pos f first (backTo pos (starEach (e :: es) X.env)) (backToKw pos (keywordEach [] X.env))) := by rfl) :
    PE X (.Call (.Attribute o m apos) (e :: es) [] pos) (tMeth C m sp [] E ta t) := by
  obtain ⟨f, fd, ps, F, hm, b⟩ := M.ex
  exact pe_meth he c hm F (hr.mono hk) b .nil hx ha hst hpl ht
theorem pe_mx0 {pl : Sem Bool} (M : MetX X.prog X.w X.K X.mg X.base CX k C m sp) (he : PE X o ta) (c : Cls X.K C) (hr : Room j X.A) (hk : k ≤ j) (hx : Passes CX X E)
    (ht : eval (.Call (.Attribute o m apos) [] [] pos) X.env = (do
      let ov ← eval o X.env
      standAt apos.atName
      let (f, first) ← holding [ov] (getMethod ov m pl)
      callWith pos f first (backTo pos (starEach [] X.env)) (backToKw pos (keywordEach [] X.env))) := by rfl) :
    PE X (.Call (.Attribute o m apos) [] [] pos) (tMeth C m sp [] E ta tNil) := by
  obtain ⟨f, fd, ps, F, hm, b⟩ := M.ex
  exact pe_meth0 he c hm F (hr.mono hk) b .nil hx ht
theorem pe_mk (M : MakX X.prog X.w X.K X.mg X.base CX k C sp) (hr : Room j X.A) (hk : k + 1 ≤ j) (hg : Gl X x) (hm : X.mg x = some (.ref C)) (hx : Passes CX X E)
    (ha : PA X (e :: es) t) (hdb : (x == ("__debug__" : Str)) = false := by decide) (he : starEach (e :: es) X.env = (false, eval e X.env) :: starEach es X.env := by rfl) (hpl : (backTo pos (starEach es X.env)).any (·.1) = false := by rfl) :
    PE X (.Call (.Name x p) (e :: es) [] pos) (tMake C sp [] E t) := by
  obtain ⟨f, fd, ps, F, M, b⟩ := M.ex
  exact pe_make M F (hr.mono hk) hg hm b .nil hx ha hdb he hpl
/-- a def that lets a callee's exception out -/
theorem passE {E : XK} {E₁ : Value → Shared → Prop} (hs : X.stack = X.env :: X.outer) (hf : X.env.frame = some X.env.locals) (hex : X.ex = [])
    (hx : X.xe = fun e s' => wpAny (model X.prog X.w) X.A (leaving X.env e) (fun _ s'' => L2.CX X.prog X.w X.outer X.H_0 X.s_0 E e s'') E₁ s') : Passes (L2.CX X.prog X.w) X E :=
  passes_call (takes_of hs hf hex hx) fun _ _ _ _ h => h
end
section
variable {P : Program} {w : World} {K : PySem.W.Frag} {mg : Str → Option Value} {base : Heap}
theorem metx {CX : CXT} {m q : Str} {params : Arguments} {body : List Stmt} {scope : Scope} {C f : Addr} {fd : FuncData} {N ps : List Str} {k : Nat} {sp : Sp} (F : FunD K m q params body scope [] [] f fd) (hm : Meth K C m f) (S : FnScope N ps scope)
    (b : Binds K fd ps []) (len : ∀ vs H Q E, sp vs H Q E → vs.length = ps.length)
    (hbody : ∀ (cdv : Value) (A : Around) (outer : List Env) (s : Shared) (H : Hp) (vs : List V) (Q : VK) (E : XK), Room k (A.deeper (envOfC q scope s.heap.objs.size f cdv)) → sp vs H Q E →
      ∃ t, PSs (cxOf CX P w K mg base N q scope f cdv A outer s H E) body t ∧ t { nx := fun _ H' => Q .non H', rt := Q } (start N vs) H) : MetX P w K mg base CX (k + 1) C m sp :=
  ⟨f, fd, ps, F.ok S len hbody, hm, b⟩
theorem makx {CX : CXT} {q : Str} {params : Arguments} {body : List Stmt} {scope : Scope} {C f : Addr} {fd : FuncData} {N ps : List Str} {k : Nat} {sp : Sp} (F : FunD K "__init__" q params body scope [] [] f fd) (hm : Mk K C f) (S : FnScope N ps scope)
    (b : Binds K fd ps []) (len : ∀ vs H Q E, sp vs H Q E → vs.length = ps.length)
    (hbody : ∀ (cdv : Value) (A : Around) (outer : List Env) (s : Shared) (H : Hp) (vs : List V) (Q : VK) (E : XK), Room k (A.deeper (envOfC q scope s.heap.objs.size f cdv)) → sp vs H Q E →
      ∃ t, PSs (cxOf CX P w K mg base N q scope f cdv A outer s H E) body t ∧ t { nx := fun _ H' => Q .non H', rt := Q } (start N vs) H) : MakX P w K mg base CX (k + 1) C sp :=
  ⟨f, fd, ps, F.ok S len hbody, hm, b⟩
end
/-! ### isinstance of the caught error and a tuple of classes -/
def rIsEdT (K : PySem.W.Frag) (a : Addr) (cls : Value) (d : Option Addr) : List V → Hp → VK → Prop := fun xs H Q => ∃ (tp : Addr) (cs : List V) (ws : List Value) (b : Bool) (D dd : Addr) (fs : List (Str × V)), xs = [.ref a, .ref tp] ∧ H tp = some (.tup cs) ∧ Paired ClsV cs ws ∧ cls = .ref D ∧ ExcC K D ∧ d = some dd ∧ H dd = some (.xd fs) ∧
  PySem.W.kitAny K (.ref D) ws = some b ∧ Q (.bl b) H
theorem call_isEdT {X : Cx} {a : Addr} {cls : Value} {d : Option Addr} {oe : Obj} {pn : List (Addr × Obj)} (hz : Zc cls d oe) (hf : ∃ vs, oe.data = .fields vs) : CallR (X.suite a ((a, oe) :: pn)) (.builtin "isinstance") (rIsEdT X.K a cls d) := by
  intro pins s σ H xs us Q I r h
  obtain ⟨tp, cs, ws, b, D, dd, fs, rfl, hT, hcs, rfl, C, rfl, hdd, e, q⟩ := h
  cases r with
  | cons rx rr =>
    cases rr with
    | cons rt rr =>
      cases rr
      cases rx
      cases rt
      obtain ⟨_, its, rv, o, h1, h2, n, h3⟩ := (show ObjOk X.prog X.w H s.heap tp (.tup cs) from I.hok tp _ hT)
      have e3 := ClsV.all hcs rv
      subst e3
      obtain ⟨oc, od, dt, sl⟩ := o
      simp only at h2 h3
      subst h2 h3
      obtain ⟨hget, _⟩ := I.pin (a, oe) (List.mem_append.mpr (.inl List.mem_cons_self))
      obtain ⟨vs, hv⟩ := hf
      have hx : ObjOk X.prog X.w H s.heap dd (.xd fs) := I.hok dd _ hdd
      obtain ⟨mA, hns, hr⟩ := hx
      obtain ⟨od, ho, hl⟩ := lookIn_ns hns
      have J : PySem.W.InstAt s.heap a oe D (some od) := ⟨hget, hz.1, by unfold PySem.W.notCls; rw [hv] <;> rfl, by rw [hz.2]; exact ho⟩
      have hcl : (PySem.W.clsIn X.K D).isSome = true := by
        obtain ⟨cd, hc, _⟩ := PySem.W.any_some C.hd
        rw [hc] <;> rfl
      exact PySem.W.kia_tup (PySem.W.kitx_exc hcl C.hg C.hk C.hs C.ha C.hn C.ht C.hm) I.kIn J h1 e (fun z => nomatch z) fun tk => ⟨.bl b, H, I.kept (t' := tk) fun _ _ z => z, rfl, q⟩
/-! ### xs.count(x), texts -/
def eqs (k : Str) : Value → Bool
  | .str x _ => x.cps.toList == k.cps.toList
  | _ => false
def rCntS (K : PySem.W.Frag) : V → List V → Hp → VK → Prop := fun x xs H Q => ∃ (p : Addr) (ns : List (List Nat)) (k : List Nat), x = .ref p ∧ xs = [.str (S k)] ∧ SqL K H p (ns.map fun r => V.str (S r)) ∧ Q (.int (ns.count k : Nat)) H
theorem eqs_gives {k : List Nat} {t : Tok} : ∀ {ns : List (List Nat)} {us : List Value}, Vals (ns.map fun r => V.str (S r)) us → ∀ y ∈ us, MeetsSeq.EqGives y (.str (S k) t) (eqs (S k) y)
  | [], _, .nil, y, h => by cases h
  | n :: ns, _, .cons r rs, y, h => by
    rcases List.mem_cons.mp h with e | e
    · obtain ⟨t', rfl⟩ := r
      rw [e]
      exact SeqRoads2.EqGives.str (S n) (S k) t' t
    · exact eqs_gives rs y e
theorem eqs_count {k : List Nat} : ∀ {ns : List (List Nat)} {us : List Value}, Vals (ns.map fun r => V.str (S r)) us → us.countP (eqs (S k)) = ns.count k
  | [], _, .nil => rfl
  | n :: ns, _, .cons r rs => by
    obtain ⟨t', rfl⟩ := r
    rw [List.countP_cons, List.count_cons, eqs_count rs]
    congr 1
theorem mt_lcountS {X : Cx} : MtR X "list.count" (rCntS X.K) := by
  intro pins s σ H x xs v us Q I rx rxs h
  obtain ⟨p, ns, k, rfl, rfl, hs, q⟩ := h
  cases rx
  obtain ⟨u, rfl, ru⟩ := rxs.one
  obtain ⟨t, rfl⟩ := ru
  obtain ⟨its, rv, ⟨⟨cls, dd, data, sl⟩, n, ho, hc, hdn, hd⟩, hlen⟩ := I.list hs
  simp only at hc hd
  subst hc hd
  refine call_meets PySem.F.slot_list_count ⟨_, ho, rfl⟩ PySem.F.entry_list_count (PySem.F.args_list_count_2 _ _)
    (SeqAt.list_countAt p its.toArray n dd sl (.str (S k) t) (eqs (S k))) ⟨ho, fun y hy => (eqs_gives rv y (by simpa using hy)).at _ _, ?_⟩
  have ec : its.toArray.toList.countP (eqs (S k)) = ns.count k := eqs_count rv
  refine ⟨.int (ns.count k : Nat), H, I.tok _, ⟨s.toks, ?_⟩, q⟩
  show Value.int ((its.toArray.toList.countP (eqs (S k)) : Nat) : Int) s.toks = Value.int ((ns.count k : Nat) : Int) s.toks
  rw [ec]
/-! ### int(flag) -/
def rIntB : List V → Hp → VK → Prop := fun xs H Q => ∃ k, xs = [.bl k] ∧ Q (.int (if k then 1 else 0)) H
theorem call_intB {X : Cx} : CallR X (.type "int") rIntB := fun pins s σ H xs us Q I r ⟨k, e, q⟩ => call_int1 pins s σ H xs us Q I r (.inr ⟨k, e, q⟩)
/-! ### texts -/
def strp (l : List Nat) : List Nat := ((l.dropWhile (· == 32)).reverse.dropWhile (· == 32)).reverse
theorem tl_S (l : List Nat) : tl (S l) = l := S_get l
theorem strip_S (l : List Nat) : Txt.stripChars (S l) (S [32]) = S (strp l) := by
  have hg : ∀ c, (S [32]).cps.contains c = (c == 32) := fun c => by
    show (#[32] : Array Nat).contains c = _
    simp [Array.contains]
  have hg' : (S [32]).cps.contains = fun c => c == 32 := funext hg
  have dw : ∀ l : List Nat, l.dropWhile (· == 32) = l.drop (l.takeWhile (· == 32)).length := fun l => by
    induction l with
    | nil => rfl
    | cons c r ih =>
      by_cases h : c = 32
      · subst h; rw [List.dropWhile_cons_of_pos (by rfl), List.takeWhile_cons_of_pos (by rfl), List.length_cons, List.drop_succ_cons]; exact ih
      · rw [List.dropWhile_cons_of_neg (by simpa using h), List.takeWhile_cons_of_neg (by simpa using h)]; rfl
  have key : tl (stripped (S [32]).cps.contains true true (S l)) = strp l := by
    unfold stripped
    rw [tl_strSub, hg']
    unfold stripLo stripHi
    rw [if_pos rfl, if_pos rfl, S_get, S_len]
    unfold strp
    rw [dw l, dw ((l.drop _).reverse), List.drop_reverse, List.reverse_reverse]
    congr 1
    have h1 : (List.takeWhile (· == 32) l).length ≤ l.length := (List.takeWhile_sublist _).length_le
    rw [List.length_drop]
    omega
  unfold Txt.stripChars Txt.stripBy
  by_cases h : stripSame (S [32]).cps.contains true true (S l) = true
  · rw [if_pos h]
    refine ext_tl ?_
    rw [tl_S (strp l), ← key]
    unfold stripSame at h
    rw [Bool.and_eq_true, beq_iff_eq, beq_iff_eq] at h
    unfold stripped
    rw [h.2, h.1]
    have := tl_strSub_end (S l) 0
    rw [this]; rfl
  · rw [if_neg h]
    refine ext_tl ?_
    rw [tl_S (strp l), key]
def spl32 (l : List Nat) : List (List Nat) := spl [32] 0 [] l
theorem split_S (l : List Nat) (c : Nat) (hc : c < 256) : Txt.split (S l) (S [c]) = (spl [c] 0 [] l).map S := by
  refine map_tl_inj ?_
  have hk : (S [c]).cps.all (· < 256) = true := by
    show (#[c] : Array Nat).all (· < 256) = true
    simp [hc]
  rw [split_spl _ _ (by rw [tl_S]; simp) (kind_ok hk), tl_S, tl_S, List.map_map]
  have : (tl ∘ S) = id := funext fun z => tl_S z
  rw [this, List.map_id]
theorem part_S (l : List Nat) (c : Nat) : Txt.partition (S l) (S [c]) = (match par [c] [] l with | some (a, b) => (S a, S [c], S b) | none => (S l, S [], S [])) := by
  rw [partition_par _ _ (by rw [tl_S]; simp), tl_S, tl_S]
  rfl
theorem start_S (l : List Nat) (c : Nat) : Txt.startswith (S l) (S [c]) = decide (l[0]? = some c) := by
  unfold Txt.startswith
  rw [S_len, S_len, subAt_eq, S_len]
  have e1 : tl (S l) = l := tl_S l
  have e2 : tl (S [c]) = [c] := tl_S [c]
  show (decide (0 + 1 ≤ l.length) && (((tl (S l)).drop 0).take 1 == tl (S [c]))) = _
  rw [e1, e2]
  cases l with
  | nil => rfl
  | cons d r => simp; exact Bool.beq_eq_decide_eq d c
theorem join_S (c : Nat) (ls : List (List Nat)) : Txt.join (S [c]) (ls.map S) = S (joinL [c] ls) := by
  refine ext_tl ?_
  rw [join_eq, tl_join, tl_S, tl_S, List.map_map]
  have : (tl ∘ S) = id := funext fun z => tl_S z
  rw [this, List.map_id]
def rSplitS : V → List V → Hp → VK → Prop := fun x xs H Q => ∃ (l : List Nat) (c : Nat), x = .str (S l) ∧ xs = [.str (S [c])] ∧ c < 256 ∧ l.length + 2 ≤ sizeLine ∧ ∀ p, H p = none → Q (.ref p) (upd H p (.lst ((spl [c] 0 [] l).map fun r => V.str (S r))))
theorem mt_splitS {X : Cx} : MtR X "str.split" rSplitS := fun pins s σ H x xs v us Q I rx rs ⟨l, c, e1, e2, hc, hz, h⟩ =>
  mt_split pins s σ H x xs v us Q I rx rs ⟨S l, S [c], e1, e2, rfl, by rw [S_len]; exact hz, fun p hp => by
    have := h p hp
    rw [split_S l c hc, List.map_map]; exact this⟩
def rStripS : V → List V → Hp → VK → Prop := fun x xs H Q => ∃ l : List Nat, x = .str (S l) ∧ xs = [.str (S [32])] ∧ l.length ≤ sizeLine ∧ Q (.str (S (strp l))) H
theorem mt_stripS {X : Cx} : MtR X "str.strip" rStripS := fun pins s σ H x xs v us Q I rx rs ⟨l, e1, e2, hz, h⟩ =>
  mt_stripChars pins s σ H x xs v us Q I rx rs ⟨S l, S [32], e1, e2, by rw [S_len]; exact hz, by rw [strip_S]; exact h⟩
def rPartS : V → List V → Hp → VK → Prop := fun x xs H Q => ∃ (l : List Nat) (c : Nat), x = .str (S l) ∧ xs = [.str (S [c])] ∧ l.length ≤ sizeLine ∧
  ∀ p, H p = none → Q (.ref p) (upd H p (.tup (match par [c] [] l with | some (a, b) => [.str (S a), .str (S [c]), .str (S b)] | none => [.str (S l), .str (S []), .str (S [])])))
theorem mt_partS {X : Cx} : MtR X "str.partition" rPartS := fun pins s σ H x xs v us Q I rx rs ⟨l, c, e1, e2, hz, h⟩ =>
  mt_partition pins s σ H x xs v us Q I rx rs ⟨S l, S [c], e1, e2, rfl, by rw [S_len]; exact hz, fun p hp => by
    have := h p hp
    rw [part_S]
    cases e : par [c] [] l with
    | none => rw [e] at this; exact this
    | some q => rw [e] at this; exact this⟩
def rStartS : V → List V → Hp → VK → Prop := fun x xs H Q => ∃ (l : List Nat) (c : Nat), x = .str (S l) ∧ xs = [.str (S [c])] ∧ Q (.bl (decide (l[0]? = some c))) H
theorem mt_startS {X : Cx} : MtR X "str.startswith" rStartS := fun pins s σ H x xs v us Q I rx rs ⟨l, c, e1, e2, h⟩ =>
  mt_startswith pins s σ H x xs v us Q I rx rs ⟨S l, S [c], e1, e2, by rw [start_S]; exact h⟩
def rJoinS (K : PySem.W.Frag) : V → List V → Hp → VK → Prop := fun x xs H Q => ∃ (c : Nat) (p : Addr) (ls : List (List Nat)), x = .str (S [c]) ∧ xs = [.ref p] ∧ SqL K H p (ls.map fun r => V.str (S r)) ∧ (ls.map (·.length)).sum + ls.length ≤ 16777216 ∧ Q (.str (S (joinL [c] ls))) H
theorem mt_joinS {X : Cx} : MtR X "str.join" (rJoinS X.K) := fun pins s σ H x xs v us Q I rx rs ⟨c, p, ls, e1, e2, hp, hz, h⟩ =>
  mt_join pins s σ H x xs v us Q I rx rs ⟨S [c], p, ls.map S, e1, e2, .inl (by rw [List.map_map]; exact hp), by
    rw [List.map_map, List.length_map, S_len]
    have : ((fun x : Str => x.length) ∘ S) = List.length := funext fun z => S_len z
    rw [this]; simpa using hz, by rw [join_S]; exact h⟩
/-! ### tables of the top with text keys -/
section
variable {X : Cx} {d : Addr} {kvs : List (Str × He.Dv)}
def rInTD (d : Addr) (kvs : List (Str × He.Dv)) : R2 := fun x y H Q => ∃ z : Str, x = .str z ∧ y = .ref d ∧ Q (.bl (decide (z ∈ kvs.map (·.1)))) H
def rNotInTD (d : Addr) (kvs : List (Str × He.Dv)) : R2 := fun x y H Q => ∃ z : Str, x = .str z ∧ y = .ref d ∧ Q (.bl (!decide (z ∈ kvs.map (·.1)))) H
theorem ns_TD {K : PySem.W.Frag} {w : World} (D : HallHt.TxtD K w d kvs) (z : Str) : ∃ r : Option Value, PySem.W.nsIn K d z = some r ∧ r.isSome = decide (z ∈ kvs.map (·.1)) := by
  by_cases h : z ∈ kvs.map (·.1)
  · obtain ⟨p, hp, rfl⟩ := List.mem_map.mp h
    obtain ⟨u, e, _⟩ := D.has p hp
    exact ⟨_, e, by rw [decide_eq_true h]; rfl⟩
  · exact ⟨_, D.not z h, by rw [decide_eq_false h]; rfl⟩
theorem op_inTD (D : HallHt.TxtD X.K X.w d kvs) : OpR X (compareOp .In) (rInTD d kvs) := by
  obtain ⟨es, n, KD⟩ := D.ex
  intro pins s σ H x y v u Q I rx ry ⟨z, e1, e2, q⟩
  obtain ⟨r, h1, h2⟩ := ns_TD D z
  exact op_in_kd KD pins s σ H x y v u Q I rx ry ⟨z, r, e1, e2, h1, by rw [h2]; exact q⟩
theorem op_notInTD (D : HallHt.TxtD X.K X.w d kvs) : OpR X (compareOp .NotIn) (rNotInTD d kvs) := by
  obtain ⟨es, n, KD⟩ := D.ex
  intro pins s σ H x y v u Q I rx ry ⟨z, e1, e2, q⟩
  obtain ⟨r, h1, h2⟩ := ns_TD D z
  exact op_notIn_kd KD pins s σ H x y v u Q I rx ry ⟨z, r, e1, e2, h1, by rw [h2]; exact q⟩
def rGetTD (K : PySem.W.Frag) (d : Addr) (kvs : List (Str × He.Dv)) : R2 := fun x y H Q => ∃ p ∈ kvs, x = .ref d ∧ y = .str p.1 ∧ Q (p.2.v K) H
theorem op_getTD (D : HallHt.TxtD X.K X.w d kvs) : OpR X getItem (rGetTD X.K d kvs) := by
  obtain ⟨es, n, KD⟩ := D.ex
  intro pins s σ H x y v u Q I rx ry ⟨p, hp, e1, e2, q⟩
  obtain ⟨u0, h1, h2⟩ := D.has p hp
  exact op_item_kd KD pins s σ H x y v u Q I rx ry ⟨p.1, u0, _, e1, e2, h1, h2, q⟩
theorem ix_TD (D : HallHt.TxtD X.K X.w d kvs) : IxR X (rGetTD X.K d kvs) := by
  obtain ⟨es, n, KD⟩ := D.ex
  intro value slice pins s σ H x y v u Q I rx ry h hs
  obtain ⟨p, hp, e1, e2, q⟩ := h
  subst e1
  cases rx
  exact tail_any (kd_type KD I) PySem.F.slot_dict_getitem.lookup (op_getTD D pins s σ H (.ref d) y _ u Q I rfl ry ⟨p, hp, rfl, e2, q⟩) hs
end
end L2

/-! More steps: fields, texts' methods, dicts, last items, powers, tuples. -/
namespace L2
open PySem PySem.Spec PyProof.Rows SX TL
def CPowN (i j : Int) : Prop := 0 ≤ j ∧ (Builtin.Int.intBits i : Int) * j ≤ 2 ^ 27
def rPowN : R2 := rI CPowN fun i j => .int (i ^ j.toNat)
theorem op_powN {X : Cx} : OpR X (binaryOp .Pow) rPowN := opI fun _ _ _ _ _ _ _ hc q => pow_int hc.1 hc.2 q
section
variable {σ : St} {H : Hp} {i : Nat} {v x y z : V} {ta tb tc te tv : TE} {tt uu : TT} {tA tR : TA} {Q : VK} {QB : Bool → Hp → Prop} {QA : List V → Hp → Prop} {D : Ends} {t u : TS} {g : TG} {K : PySem.W.Frag}
theorem w_powN {a b : Int} (hc : CPowN a b) (h : Q (.int (a ^ b.toNat)) H) : rPowN (.int a) (.int b) H Q := ⟨a, b, rfl, rfl, hc, h⟩
theorem w_intB {k : Bool} (h : Q (.int (if k then 1 else 0)) H) : rIntB [.bl k] H Q := ⟨k, rfl, h⟩
theorem w_fld {f : Str} (h : ta σ H fun x H1 => ∃ a C dx fs v, x = .ref a ∧ H1 a = some (.ins C dx fs) ∧ Cls K C ∧ NoAttr K C f ∧ fs.lookup f = some v ∧ Q v H1) : tFld K ta f σ H Q := h
theorem w_fldA {R : V → Prop} {a C dx : Addr} {fs : List (Str × V)} {f : Str} (e : H a = some (.ins C dx fs)) (c : Cls K C) (n : NoAttr K C f) (l : fs.lookup f = some v) (h : R v) : ∃ a' C' dx' fs' v', V.ref a = .ref a' ∧ H a' = some (.ins C' dx' fs') ∧ Cls K C' ∧ NoAttr K C' f ∧ fs'.lookup f = some v' ∧ R v' := ⟨a, C, dx, fs, v, rfl, e, c, n, l, h⟩
theorem w_setf {f : Str} (h : tv σ H fun y H1 => ta σ H1 fun x H2 => ∃ a C dx fs, x = .ref a ∧ H2 a = some (.ins C dx fs) ∧ Cls K C ∧ NoAttr K C f ∧ fs.length < 1000 ∧ D.nx σ (upd H2 a (.ins C dx (putF f y fs)))) : sFld K ta tv f D σ H := h
theorem w_setfA {R : Addr → Addr → Addr → List (Str × V) → Prop} {a C dx : Addr} {fs : List (Str × V)} {f : Str} (e : H a = some (.ins C dx fs)) (c : Cls K C) (n : NoAttr K C f) (l : fs.length < 1000) (h : R a C dx fs) : ∃ a' C' dx' fs', V.ref a = .ref a' ∧ H a' = some (.ins C' dx' fs') ∧ Cls K C' ∧ NoAttr K C' f ∧ fs'.length < 1000 ∧ R a' C' dx' fs' := ⟨a, C, dx, fs, rfl, e, c, n, l, h⟩
theorem w_faug {rd : V → V → Hp → VK → Prop} {f : Str} (h : ta σ H fun x H1 => ∃ a C dx fs v, x = .ref a ∧ H1 a = some (.ins C dx fs) ∧ Cls K C ∧ NoAttr K C f ∧ fs.lookup f = some v ∧
  tv σ H1 fun y H2 => rd v y H2 fun z H3 => ∃ dx' fs', H3 a = some (.ins C dx' fs') ∧ fs'.length < 1000 ∧ D.nx σ (upd H3 a (.ins C dx' (putF f z fs')))) : sFldAug K ta tv rd f D σ H := h
theorem w_meth {C : Addr} {m : Str} {sp : Sp} {E : XK} (h : ta σ H fun x H1 => ∃ a dx fs, x = .ref a ∧ H1 a = some (.ins C dx fs) ∧ fs.lookup m = none ∧ tA σ H1 fun vs H2 => sp (x :: (vs ++ [])) H2 Q E) : tMeth C m sp [] E ta tA σ H Q := h
theorem w_isN (h : Q (.bl (decide (x = .non))) H) : (fun x y H Q => y = V.non ∧ Q (.bl (decide (x = V.non))) H : R2) x .non H Q := ⟨rfl, h⟩
theorem w_bmS {rm : V → List V → Hp → VK → Prop} {z : Str} (h : tA σ H fun xs H2 => rm (.str z) xs H2 Q) : tyV K "str" (.str z) H ∧ tA σ H fun xs H2 => rm (.str z) xs H2 Q := ⟨rfl, h⟩
theorem w_split {l : List Nat} {c : Nat} (hc : c < 256) (hz : l.length + 2 ≤ sizeLine) (h : ∀ p, H p = none → Q (.ref p) (upd H p (.lst ((spl [c] 0 [] l).map fun r => V.str (SX.S r))))) : rSplitS (.str (SX.S l)) [.str (SX.S [c])] H Q := ⟨l, c, rfl, rfl, hc, hz, h⟩
theorem w_strip {l : List Nat} (hz : l.length ≤ sizeLine) (h : Q (.str (SX.S (strp l))) H) : rStripS (.str (SX.S l)) [.str (SX.S [32])] H Q := ⟨l, rfl, rfl, hz, h⟩
theorem w_start {l : List Nat} {c : Nat} (h : Q (.bl (decide (l[0]? = some c))) H) : rStartS (.str (SX.S l)) [.str (SX.S [c])] H Q := ⟨l, c, rfl, rfl, h⟩
theorem w_join {l : List (List Nat)} {c : Nat} {p : Addr} (hs : SqL K H p (l.map fun r => V.str (SX.S r))) (hz : (l.map (·.length)).sum + l.length ≤ 16777216) (h : Q (.str (SX.S (joinL [c] l))) H) : rJoinS K (.str (SX.S [c])) [.ref p] H Q := ⟨c, p, l, rfl, rfl, hs, hz, h⟩
theorem w_prt {l : List Nat} {c : Nat} (hz : l.length ≤ sizeLine) (h : ∀ p, H p = none → Q (.ref p) (upd H p (.tup (match par [c] [] l with | some (a, b) => [.str (SX.S a), .str (SX.S [c]), .str (SX.S b)] | none => [.str (SX.S l), .str (SX.S []), .str (SX.S [])])))) : rPartS (.str (SX.S l)) [.str (SX.S [c])] H Q := ⟨l, c, rfl, rfl, hz, h⟩
theorem w_cnt1 {ns : List (List Nat)} {k : List Nat} {p : Addr} (hs : SqL K H p (ns.map fun r => V.str (SX.S r))) (h : Q (.int (ns.count k : Nat)) H) : rCntS K (.ref p) [.str (SX.S k)] H Q := ⟨p, ns, k, rfl, rfl, hs, h⟩
theorem w_lstTyQ {p : Addr} {xs : List V} {F : Prop} (hp : SqL K H p xs) (h : F) : tyV K "list" (.ref p) H ∧ F := ⟨.inl ⟨rfl, _, hp⟩, h⟩
theorem w_ixLm {p : Addr} {xs : List V} (hs : SqL K H p (xs ++ [v])) (h : Q v H) : rIxL K (.ref p) (.int (-1)) H Q := ⟨p, _, _, v, rfl, rfl, hs, atI_last xs v, h⟩
theorem w_setLm {p : Addr} {xs : List V} {F : Hp → Prop} (hp : H p = some (.lst (xs ++ [x]))) (h : F (upd H p (.lst (xs ++ [v])))) : rSetL (.ref p) (.int (-1)) v H F := by
  refine ⟨p, xs ++ [x], -1, xs.length, rfl, rfl, hp, ?_, ?_⟩
  · unfold ixN
    have hl : (xs ++ [x]).length = xs.length + 1 := by simp
    rw [hl, if_neg (by decide), if_pos (by omega)]
    congr 1
    omega
  · rw [List.set_append_right _ _ (Nat.le_refl _), Nat.sub_self]; exact h
theorem w_repL {p : Addr} {xs : List V} {n : Nat} (hp : H p = some (.lst xs)) (hn : n < 2 ^ 62) (hz : xs.length * n ≤ sizeLine) (h : ∀ q, H q = none → Q (.ref q) (upd H q (.lst (List.replicate n xs).flatten))) : rRep (.ref p) (.int (n : Int)) H Q :=
  ⟨p, n, xs, rfl, rfl, hp, by omega, by omega, by rw [Int.toNat_natCast]; exact hz, by rw [Int.toNat_natCast]; exact h⟩
theorem w_catU {p q : Addr} {xs ys : List V} (hp : SqT K H p xs) (hq : SqT K H q ys) (hx : xs ≠ []) (hy : ys ≠ []) (hz : xs.length + ys.length ≤ 4096) (h : ∀ t, H t = none → Q (.ref t) (upd H t (.tup (xs ++ ys)))) : rCatT K (.ref p) (.ref q) H Q :=
  ⟨p, q, xs, ys, rfl, rfl, hp, hq, hx, Nat.le_trans hz (by decide), fun z => absurd z hy, fun _ => h⟩
theorem w_tTo {p : Addr} {l : List V} {b : Nat} (hs : SqT K H p l) (hb : b < l.length) (h : ∀ q, H q = none → Q (.ref q) (upd H q (.tup (l.take b)))) : rSlT K (.ref p) none (some (b : Int)) H Q := ⟨p, l, rfl, hs, by rw [HT.sIx_nat]; intro z; have := z.2; omega, by rw [cut_to]; exact h⟩
theorem w_tupL {p : Addr} {ys : List V} (hs : SqL K H p ys) (h : ∀ l, H l = none → Q (.ref l) (upd H l (.tup ys))) : rTupL K [.ref p] H Q := ⟨p, ys, rfl, hs, h⟩
theorem w_lstQL {p : Addr} {ys : List V} (hs : SqL K H p ys) (h : ∀ l, H l = none → Q (.ref l) (upd H l (.lst ys))) : rLstQ K [.ref p] H Q := ⟨p, ys, rfl, .inl hs, h⟩
/-! ### data -/
theorem dpS {H : Hp} : ∀ ws : List (List Nat), DpAll K H (ws.map fun r => V.str (SX.S r)) (ws.map fun r => PyData.str (SX.S r))
  | [] => .nil
  | w :: ws => .cons (.str _) (dpS ws)
/-- plain signs alone -/
def Cok (l : List Nat) : Prop := ∀ c ∈ l, c < 256
theorem strOk_S {l : List Nat} (h : Cok l) : PyData.strOk (SX.S l) = true := by
  unfold PyData.strOk
  rw [Array.all_eq_true']
  intro c hc
  have hc' : c ∈ (SX.S l).cps.toList := by simpa using hc
  rw [S_get] at hc'
  exact decide_eq_true (Nat.lt_trans (h c hc') (by decide))
theorem shS : ∀ ws : List (List Nat), (∀ w ∈ ws, Cok w) → PyData.canLayAll0 (ws.map fun r => PyData.str (SX.S r)) = true ∧ PyData.depthAll (ws.map fun r => PyData.str (SX.S r)) ≤ 1
  | [], _ => ⟨rfl, Nat.zero_le _⟩
  | w :: ws, h => by
    obtain ⟨h1, h2⟩ := shS ws fun v hv => h v (List.mem_cons_of_mem _ hv)
    refine ⟨?_, ?_⟩
    · simp only [List.map_cons, PyData.canLayAll0, PyData.canLay0]
      rw [strOk_S (h w List.mem_cons_self), h1]; rfl
    · simp only [List.map_cons, PyData.depthAll, PyData.depth]
      omega
theorem shL {ws : List (List Nat)} (h : ∀ w ∈ ws, Cok w) : SeqAt.shaped (.list (ws.map fun r => PyData.str (SX.S r))) = true := by
  obtain ⟨h1, h2⟩ := shS ws h
  show ((PyData.canLay0 (.list _)) && decide (PyData.depth (.list _) ≤ 64)) = true
  rw [Bool.and_eq_true]
  refine ⟨by simp only [PyData.canLay0]; exact h1, decide_eq_true ?_⟩
  simp only [PyData.depth]; omega
theorem eqvS : ∀ ws vs : List (List Nat), PyData.eqvAll (ws.map fun r => PyData.str (SX.S r)) (vs.map fun r => PyData.str (SX.S r)) = decide (ws = vs)
  | [], [] => rfl
  | [], _ :: _ => rfl
  | _ :: _, [] => rfl
  | w :: ws, v :: vs => by
    simp only [List.map_cons, PyData.eqvAll, PyData.eqv, eqvS ws vs]
    by_cases h : w = v
    · subst h; simp
    · have : (SX.S w == SX.S v) = false := by
        rw [beq_eq_false_iff_ne]; exact fun z => h (SX.S_inj z)
      simp [this, h]
theorem w_eqW {p q : Addr} {ws vs : List (List Nat)} (hp : SqL K H p (ws.map fun r => V.str (SX.S r))) (hq : SqL K H q (vs.map fun r => V.str (SX.S r))) (h1 : ∀ w ∈ ws, Cok w) (h2 : ∀ w ∈ vs, Cok w) (h : Q (.bl (decide (ws = vs))) H) : rEqD K (.ref p) (.ref q) H Q :=
  ⟨_, _, .lst hp (dpS ws), .lst hq (dpS vs), shL h1, shL h2, by simp only [PyData.eqv, eqvS]; exact h⟩
end
end L2

/-! New things told by what stands, not by how: Same. -/
namespace L2
open PySem PySem.Spec PyProof.Rows SX TL
theorem same_upd {H : Hp} {p : Addr} {o : HO} (h : H p = none) : Same H (upd H p o) := fun b u e => by
  rw [upd_ne (ne_of_none e h)]; exact e
theorem Same.tr {H H1 H2 : Hp} (h : Same H H1) (k : Same H1 H2) : Same H H2 := fun b u e => k b u (h b u e)
theorem SqL.sm {K : PySem.W.Frag} {H H' : Hp} {a : Addr} {xs : List V} (h : SqL K H a xs) (e : Same H H') : SqL K H' a xs :=
  h.elim (fun h => .inl (h.elim (fun h => .inl (e _ _ h)) fun ⟨o, h⟩ => .inr ⟨o, e _ _ h⟩)) fun h => .inr h
/-- a new list, a new tuple -/
def NewL (xs : List V) (H : Hp) (Q : VK) : Prop := xs.length ≤ sizeLine ∧ ∀ p, H p = none → Q (.ref p) (upd H p (.lst xs))
def NewT (xs : List V) (H : Hp) (Q : VK) : Prop := xs.length ≤ sizeLine ∧ ∀ p, H p = none → Q (.ref p) (upd H p (.tup xs))
/-- all but p is as it was -/
def Ex (p : Addr) (H H' : Hp) : Prop := ∀ b, b ≠ p → H' b = H b
section
variable {σ : St} {H : Hp} {v : V} {tA : TA} {Q : VK} {K : PySem.W.Frag}
theorem w_lstN (h : tA σ H fun xs H1 => NewL xs H1 Q) : tLst tA σ H Q := h
theorem w_tupN (h : tA σ H fun xs H1 => NewT xs H1 Q) : tTup tA σ H Q := h
theorem n_L {xs : List V} (h : ∀ p H', H p = none → Same H H' → H' p = some (.lst xs) → Q (.ref p) H') (hz : xs.length ≤ 4096 := by exact Nat.le_of_ble_eq_true rfl) : NewL xs H Q :=
  ⟨Nat.le_trans hz (by decide), fun p hp => h p _ hp (same_upd hp) upd_same⟩
theorem n_T {xs : List V} (h : ∀ p H', H p = none → Same H H' → H' p = some (.tup xs) → Q (.ref p) H') (hz : xs.length ≤ 4096 := by exact Nat.le_of_ble_eq_true rfl) : NewT xs H Q :=
  ⟨Nat.le_trans hz (by decide), fun p hp => h p _ hp (same_upd hp) upd_same⟩
theorem n_to {p : Addr} {l : List V} {b : Nat} (hs : SqL K H p l) (h : ∀ q H', H q = none → Same H H' → H' q = some (.lst (l.take b)) → Q (.ref q) H') : rSlL K (.ref p) none (some (b : Int)) H Q := w_lTo hs fun q hq => h q _ hq (same_upd hq) upd_same
theorem n_from {p : Addr} {l : List V} {a : Nat} (hs : SqL K H p l) (h : ∀ q H', H q = none → Same H H' → H' q = some (.lst (l.drop a)) → Q (.ref q) H') : rSlL K (.ref p) (some (a : Int)) none H Q := w_lFrom hs fun q hq => h q _ hq (same_upd hq) upd_same
theorem n_mid {p : Addr} {l : List V} {a b : Nat} (hs : SqL K H p l) (h : ∀ q H', H q = none → Same H H' → H' q = some (.lst ((l.drop a).take (b - a))) → Q (.ref q) H') : rSlL K (.ref p) (some (a : Int)) (some (b : Int)) H Q := w_lMid hs fun q hq => h q _ hq (same_upd hq) upd_same
theorem n_cat {p q : Addr} {xs zs : List V} (hp : H p = some (.lst xs)) (hq : H q = some (.lst zs)) (hz : xs.length + zs.length ≤ 100000) (h : ∀ t H', H t = none → Same H H' → H' t = some (.lst (xs ++ zs)) → Q (.ref t) H') : rCat (.ref p) (.ref q) H Q :=
  w_catL hp hq (Nat.le_trans hz (by decide)) fun t ht => h t _ ht (same_upd ht) upd_same
theorem n_rep {p : Addr} {xs : List V} {n : Nat} (hp : H p = some (.lst xs)) (hz : xs.length * n ≤ 100000) (hn : n ≤ 100000) (h : ∀ q H', H q = none → Same H H' → H' q = some (.lst (List.replicate n xs).flatten) → Q (.ref q) H') : rRep (.ref p) (.int (n : Int)) H Q :=
  w_repL hp (Nat.lt_of_le_of_lt hn (by decide)) (Nat.le_trans hz (by decide)) fun t ht => h t _ ht (same_upd ht) upd_same
theorem n_tup {p : Addr} {ys : List V} (hs : SqL K H p ys) (h : ∀ l H', H l = none → Same H H' → H' l = some (.tup ys) → Q (.ref l) H') : rTupL K [.ref p] H Q := w_tupL hs fun t ht => h t _ ht (same_upd ht) upd_same
theorem n_lst {p : Addr} {ys : List V} (hs : SqL K H p ys) (h : ∀ l H', H l = none → Same H H' → H' l = some (.lst ys) → Q (.ref l) H') : rLstQ K [.ref p] H Q := w_lstQL hs fun t ht => h t _ ht (same_upd ht) upd_same
theorem n_catU {p q : Addr} {xs ys : List V} (hp : SqT K H p xs) (hq : SqT K H q ys) (hx : xs ≠ []) (hy : ys ≠ []) (hz : xs.length + ys.length ≤ 4096) (h : ∀ t H', H t = none → Same H H' → H' t = some (.tup (xs ++ ys)) → Q (.ref t) H') : rCatT K (.ref p) (.ref q) H Q :=
  w_catU hp hq hx hy hz fun t ht => h t _ ht (same_upd ht) upd_same
theorem n_tTo {p : Addr} {l : List V} {b : Nat} (hs : SqT K H p l) (hb : b < l.length) (h : ∀ q H', H q = none → Same H H' → H' q = some (.tup (l.take b)) → Q (.ref q) H') : rSlT K (.ref p) none (some (b : Int)) H Q := w_tTo hs hb fun t ht => h t _ ht (same_upd ht) upd_same
theorem n_split {l : List Nat} {c : Nat} (hc : c < 256) (hz : l.length + 2 ≤ sizeLine) (h : ∀ p H', H p = none → Same H H' → H' p = some (.lst ((spl [c] 0 [] l).map fun r => V.str (SX.S r))) → Q (.ref p) H') : rSplitS (.str (SX.S l)) [.str (SX.S [c])] H Q := w_split hc hz fun t ht => h t _ ht (same_upd ht) upd_same
theorem n_part {l : List Nat} {c : Nat} (hz : l.length ≤ sizeLine) (h : ∀ p H', H p = none → Same H H' → H' p = some (.tup (match par [c] [] l with | some (a, b) => [.str (SX.S a), .str (SX.S [c]), .str (SX.S b)] | none => [.str (SX.S l), .str (SX.S []), .str (SX.S [])])) → Q (.ref p) H') : rPartS (.str (SX.S l)) [.str (SX.S [c])] H Q := w_prt hz fun t ht => h t _ ht (same_upd ht) upd_same
theorem n_app {p : Addr} {xs : List V} (hp : H p = some (.lst xs)) (hz : xs.length ≤ 100000) (h : ∀ H', H' p = some (.lst (xs ++ [v])) → Ex p H H' → Q .non H') : rAppend (.ref p) [v] H Q :=
  w_app hp (Nat.lt_of_le_of_lt hz (by decide)) (h _ upd_same fun b hb => upd_ne hb)
theorem n_lTy {p : Addr} {xs : List V} {F : Prop} (hp : H p = some (.lst xs)) (h : F) : tyV K "list" (.ref p) H ∧ F := ⟨.inl ⟨rfl, _, SqL.of hp⟩, h⟩
theorem lc_const {a : Addr} {xs : List V} {i : Nat} {σ : St} {H1 : Hp} {D : Addr} {Qd : Hp → Prop} (hx : SqL K H1 a xs) (hD : H1 D = none) (hz : xs.length ≤ 100000) (h : ∀ H', Same H1 H' → H' D = some (.lst (List.replicate xs.length v)) → Qd H') :
    ∃ W : Nat → Nat → Hp → Prop, (∃ m, W 0 m (upd H1 D (.lst []))) ∧ ∀ j m H, W j m H →
      ((Itl K a).stop j H ∧ Qd H) ∨ ((Itl K a).go j H ∧ ∃ Nx : Hp → Prop, (∀ H', Nx H' → ∃ m', m' < m ∧ W (j + 1) m' H') ∧ ∀ x H', (Itl K a).yld j H x H' → gName i x (wipe σ [i]) H' fun σ2 H2 => wipe σ2 [i] = wipe σ [i] ∧ tYes σ2 H2 fun b H3 =>
        if b = true then tC v σ2 H3 fun y H4 => ∃ acc, H4 D = some (.lst acc) ∧ acc.length < sizeLine ∧ Nx (upd H4 D (.lst (acc ++ [y]))) else Nx H3) := by
  refine lc_list (xs := xs) (fun j H' => Same H1 H' ∧ H' D = some (.lst (List.replicate j v))) ⟨same_upd hD, upd_same⟩ (fun j H' _ p => hx.sm p.1) ?_ (fun H' p => h H' p.1 p.2)
  rintro j x H' hj ⟨s, e⟩
  have hj' : j < xs.length := (List.getElem?_eq_some_iff.mp hj).1
  refine ⟨?_, ?_⟩
  · show ((σ.set i none).set i (some x)).set i none = σ.set i none
    rw [List.set_set, List.set_set]
  · show ∃ acc, H' D = some (.lst acc) ∧ acc.length < sizeLine ∧ _
    refine ⟨_, e, Nat.lt_of_le_of_lt (show _ ≤ 100000 by rw [List.length_replicate]; omega) (by decide), ⟨fun b o q => ?_, by rw [upd_same, List.replicate_succ']⟩⟩
    rw [upd_ne (ne_of_none q hD)]; exact s b o q
end
end L2

/-! Defs that may use repr: what is being shown around them is known to be nothing. Equality of data of any depth that there is room for. -/
namespace L2
open PySem PySem.Spec PyProof.Rows
structure RoomG (k : Nat) (A : Around) : Prop extends Room k A where
  gd : A.guards = some []
theorem RoomG.mono {j k : Nat} {A : Around} (r : RoomG k A) (h : j ≤ k) : RoomG j A := ⟨r.toRoom.mono h, r.gd⟩
theorem RoomG.deeper {k : Nat} {A : Around} (r : RoomG (k + 1) A) (env : Env) : RoomG k (A.deeper env) := ⟨r.toRoom.deeper env, r.gd⟩
structure FnG (P : Program) (w : World) (K : PySem.W.Frag) (mg : Str → Option Value) (base : Heap) (CX : CXT) (k : Nat) (f : Addr) (fd : FuncData) (ps : List Str) (sp : Sp) : Prop where
  len : ∀ vs H Q E, sp vs H Q E → vs.length = ps.length
  run : ∀ (A : Around) (outer : List Env) (s : Shared) (H : Hp) (args : Args) (us : List Value) (vs : List V) (Q : VK) (E : XK), RoomG k A → Env0 P w K mg base A outer s H → BindsTo s fd args (ps.zip us) → Vals vs us → sp vs H Q E →
    codeAny (model P w) A (.call (.ref f) args) (CR CX outer P w H s Q E) s
theorem FunD.okG {P : Program} {w : World} {K : PySem.W.Frag} {mg : Str → Option Value} {base : Heap} {x qual : Str} {params : Arguments} {body : List Stmt} {scope : Scope} {dvs : List V} {kws : List (Str × V)} {f : Addr} {fd : FuncData}
    {CX : CXT} {N ps : List Str} {k : Nat} {sp : Sp} (F : FunD K x qual params body scope dvs kws f fd) (S : FnScope N ps scope) (len : ∀ vs H Q E, sp vs H Q E → vs.length = ps.length)
    (hbody : ∀ (cdv : Value) (A : Around) (outer : List Env) (s : Shared) (H : Hp) (vs : List V) (Q : VK) (E : XK), RoomG k (A.deeper (envOfC qual scope s.heap.objs.size f cdv)) → sp vs H Q E →
      ∃ t, PSs (cxOf CX P w K mg base N qual scope f cdv A outer s H E) body t ∧ t { nx := fun _ H' => Q .non H', rt := Q } (start N vs) H) : FnG P w K mg base CX (k + 1) f fd ps sp := by
  obtain ⟨oc, od, dV, kV, doc, pm, an, cdv, ct, osl, rfl, lk, hcd, _, _⟩ := F.ex
  refine ⟨len, fun A outer s H args us vs Q E hr e0 hb r hsp => ?_⟩
  have hl := len _ _ _ _ hsp
  have KX : K.In s.heap := e0.mod.kin.keeps fun b o e => (e0.bs b o e).1
  have lim : s.heap.NoLimit := e0.mod.nolimit.keeps fun b o e => (e0.bs b o e).1
  have hkind : ∀ y ∈ ps.zip us, scope.names.lookup y.1 = some .local ∨ (scope.names.lookup y.1 = some .cell ∧ ((cellsFrom (s.heap.objs.size + 1) scope.names []).lookup y.1).isSome = true) := fun ⟨n, v⟩ hy => by
    rcases S.par n (List.of_mem_zip hy).1 with q | q
    · exact .inl q
    · exact .inr ⟨q, PySem.W.cellsFrom_some _ _ _ (.inl q)⟩
  refine codeAny_call_function hr.toRoom.depth (KX _ _ lk) rfl S.co S.gen rfl (PySem.W.codeRec_of KX hcd) (hb _ _ _ _ ?_)
  refine wpAny_newFunctionEnv_cells S.kind hkind fun env he s1 x => ?_
  subst he
  refine ⟨lim.keeps x.toInCall.keep, codeAny_func ?_⟩
  obtain ⟨t, ht, hq⟩ := hbody cdv A outer s H vs Q E (hr.deeper _) hsp
  have I : Inv (cxOf CX P w K mg base N qual scope f cdv A outer s H E) [] (start N vs) H s1 := inv_start S hr.hd e0 hl r x
  refine wpAny_mono (ht.run [] s1 (start N vs) H _ I hq) (fun fl s' hs => ?_) fun e s' hs => hs
  have fin : ∀ {σ' : St} {H' : Hp} {v : V} {u : Value}, Inv (cxOf CX P w K mg base N qual scope f cdv A outer s H E) [] σ' H' s' → RelV v u → Q v H' → CE outer P w H s Q u s' :=
    fun {σ' H' v u} J rv q => ⟨v, H', J.os, J.bare, J.base, J.hok, rv, q⟩
  cases fl with
  | ret u =>
    obtain ⟨v, σ', H', J, rv, q⟩ := hs
    exact fin J rv q
  | next =>
    obtain ⟨σ', H', J, q⟩ := hs
    exact fin (v := V.non) (u := Value.none) J rfl q
  | brk =>
    obtain ⟨_, _, _, q⟩ := hs
    exact False.elim q
  | cont =>
    obtain ⟨_, _, _, q⟩ := hs
    exact False.elim q
structure CalG (P : Program) (w : World) (K : PySem.W.Frag) (mg : Str → Option Value) (base : Heap) (CX : CXT) (k : Nat) (x : Str) (sp : Sp) : Prop where
  ex : ∃ (f : Addr) (fd : FuncData) (ps : List Str), FnG P w K mg base CX k f fd ps sp ∧ mg x = some (.ref f) ∧ PySem.W.keepIn K (.ref f) = true ∧ Binds K fd ps []
theorem CalX.g {P : Program} {w : World} {K : PySem.W.Frag} {mg : Str → Option Value} {base : Heap} {CX : CXT} {k : Nat} {x : Str} {sp : Sp} (c : CalX P w K mg base CX k x sp) : CalG P w K mg base CX k x sp := by
  obtain ⟨f, fd, ps, F, hm, kp, hb⟩ := c.ex
  exact ⟨f, fd, ps, ⟨F.len, fun A outer s H args us vs Q E hr => F.run A outer s H args us vs Q E hr.toRoom⟩, hm, kp, hb⟩
section
variable {X : Cx} {CX : CXT} {k j : Nat} {x : Str} {sp : Sp} {p pos : Pos} {e : Expr} {es : List Expr} {t : TA} {E : XK} {ES : St → XK}
theorem pe_cg (c : CalG X.prog X.w X.K X.mg X.base CX k x sp) (hr : RoomG j X.A) (hk : k ≤ j) (hg : Gl X x) (hx : Passes CX X E) (ha : PA X (e :: es) t)
    (hdb : (x == ("__debug__" : Str)) = false := by decide) (he : starEach (e :: es) X.env = (false, eval e X.env) :: starEach es X.env := by rfl) (hpl : (backTo pos (starEach es X.env)).any (·.1) = false := by rfl) :
    PE X (.Call (.Name x p) (e :: es) [] pos) (tCall sp [] E t) := by
  obtain ⟨f, fd, ps, F, hm, kp, hb⟩ := c.ex
  refine ⟨fun pins s σ H Q I h => ?_⟩
  refine wpAny_Call_Name_kw (ld_glob I hg hm ?_ hdb)
  refine PySem.W.callWith_K (h₀ := X.base) I.ok.mod.kin kp (thn (ha.run pos pins s σ H _ I h) fun us s1 ⟨vs, H1, I1, r, q⟩ => ⟨I1.kIn, ?_⟩) he hpl
  have q' : sp vs H1 Q E := by simpa using q
  have hl : us.length = ps.length := by rw [← r.length]; exact F.len _ _ _ _ q'
  have hb' := hb s1 us I1.kIn (by simpa using hl)
  rw [List.append_nil] at hb'
  refine wpAny_call (codeAny_mono (F.run X.A X.stack s1 H1 ⟨us, []⟩ us vs Q E (hr.mono hk) I1.env0 hb' r q') fun r s' hq => ?_)
  cases r with
  | error e => exact hx pins σ H1 s1 e s' I1 hq
  | ok fl =>
    cases fl with
    | ret u => exact I1.after hq
    | next => exact False.elim hq
    | brk => exact False.elim hq
    | cont => exact False.elim hq
theorem pe_cgS (c : CalG X.prog X.w X.K X.mg X.base CX k x sp) (hr : RoomG j X.A) (hk : k ≤ j) (hg : Gl X x) (hx : ∀ σ, PassesAt CX X σ (ES σ)) (ha : PA X (e :: es) t)
    (hdb : (x == ("__debug__" : Str)) = false := by decide) (he : starEach (e :: es) X.env = (false, eval e X.env) :: starEach es X.env := by rfl) (hpl : (backTo pos (starEach es X.env)).any (·.1) = false := by rfl) :
    PE X (.Call (.Name x p) (e :: es) [] pos) (tCallS sp ES t) := by
  obtain ⟨f, fd, ps, F, hm, kp, hb⟩ := c.ex
  refine ⟨fun pins s σ H Q I h => ?_⟩
  refine wpAny_Call_Name_kw (ld_glob I hg hm ?_ hdb)
  refine PySem.W.callWith_K (h₀ := X.base) I.ok.mod.kin kp (thn (ha.run pos pins s σ H _ I h) fun us s1 ⟨vs, H1, I1, r, q⟩ => ⟨I1.kIn, ?_⟩) he hpl
  have hl : us.length = ps.length := by rw [← r.length]; exact F.len _ _ _ _ q
  have hb' := hb s1 us I1.kIn (by simpa using hl)
  rw [List.append_nil] at hb'
  refine wpAny_call (codeAny_mono (F.run X.A X.stack s1 H1 ⟨us, []⟩ us vs Q (ES σ) (hr.mono hk) I1.env0 hb' r q) fun r s' hq => ?_)
  cases r with
  | error e => exact hx σ pins H1 s1 e s' I1 hq
  | ok fl =>
    cases fl with
    | ret u => exact I1.after hq
    | next => exact False.elim hq
    | brk => exact False.elim hq
    | cont => exact False.elim hq
end
section
variable {P : Program} {w : World} {K : PySem.W.Frag} {mg : Str → Option Value} {base : Heap}
theorem calg0 {x : Str} {params : Arguments} {body : List Stmt} {scope : Scope} {f : Addr} {fd : FuncData} {N ps : List Str} {k : Nat} {sp : Sp} (F : FunD K x x params body scope [] [] f fd) (hm : mg x = some (.ref f)) (S : FnScope N ps scope)
    (b : Binds K fd ps []) (len : ∀ vs H Q E, sp vs H Q E → vs.length = ps.length)
    (hbody : ∀ (cdv : Value) (A : Around) (outer : List Env) (s : Shared) (H : Hp) (vs : List V) (Q : VK) (E : XK), RoomG k (A.deeper (envOfC x scope s.heap.objs.size f cdv)) → sp vs H Q E →
      ∃ t, PSs (cxOf CX0 P w K mg base N x scope f cdv A outer s H E).nox body t ∧ t { nx := fun _ H' => Q .non H', rt := Q } (start N vs) H) : CalG P w K mg base CX0 (k + 1) x sp :=
  ⟨f, fd, ps, F.okG S len fun cdv A outer s H vs Q E hr h => by
    obtain ⟨t, h1, h2⟩ := hbody cdv A outer s H vs Q E hr h
    exact ⟨t, h1.nox, h2⟩, hm, F.kp, b⟩
theorem calgX {CX : CXT} {x : Str} {params : Arguments} {body : List Stmt} {scope : Scope} {f : Addr} {fd : FuncData} {N ps : List Str} {k : Nat} {sp : Sp} (F : FunD K x x params body scope [] [] f fd) (hm : mg x = some (.ref f)) (S : FnScope N ps scope)
    (b : Binds K fd ps []) (len : ∀ vs H Q E, sp vs H Q E → vs.length = ps.length)
    (hbody : ∀ (cdv : Value) (A : Around) (outer : List Env) (s : Shared) (H : Hp) (vs : List V) (Q : VK) (E : XK), RoomG k (A.deeper (envOfC x scope s.heap.objs.size f cdv)) → sp vs H Q E →
      ∃ t, PSs (cxOf CX P w K mg base N x scope f cdv A outer s H E) body t ∧ t { nx := fun _ H' => Q .non H', rt := Q } (start N vs) H) : CalG P w K mg base CX (k + 1) x sp :=
  ⟨f, fd, ps, F.okG S len hbody, hm, F.kp, b⟩
end
/-! ### repr, == and != of data -/
section
variable {X : Cx} {j : Nat}
/-- data without dicts, at most n deep -/
def DpN (K : PySem.W.Frag) (H : Hp) (n : Nat) (v : V) (d : PyData) : Prop := Dp K H v d ∧ d.canLay0 = true ∧ d.depth ≤ n
def rEqN (K : PySem.W.Frag) : R2 := fun x y H Q => ∃ d e, DpN K H 180 x d ∧ DpN K H 180 y e ∧ Q (.bl (PyData.eqv d e)) H
def rNeN (K : PySem.W.Frag) : R2 := fun x y H Q => ∃ d e, DpN K H 180 x d ∧ DpN K H 180 y e ∧ Q (.bl (!PyData.eqv d e)) H
theorem op_eqN (hr : Room j X.A) : OpR X (compareOp .Eq) (rEqN X.K) := by
  intro pins s σ H x y v u Q I rx ry h
  obtain ⟨d, e, ⟨hd, ld, nd⟩, ⟨he, le, ne⟩, q⟩ := h
  obtain ⟨as, r1⟩ := Dp.reads I d x v hd rx
  obtain ⟨bs, r2⟩ := Dp.reads I e y u he ry
  exact SeqAt.compareEq_reads r1 r2 ld le (by have := hr.un; omega) ⟨.bl _, H, I, rfl, q⟩
theorem op_neN (hr : Room j X.A) : OpR X (compareOp .NotEq) (rNeN X.K) := by
  intro pins s σ H x y v u Q I rx ry h
  obtain ⟨d, e, ⟨hd, ld, nd⟩, ⟨he, le, ne⟩, q⟩ := h
  obtain ⟨as, r1⟩ := Dp.reads I d x v hd rx
  obtain ⟨bs, r2⟩ := Dp.reads I e y u he ry
  exact SeqAt.compareNe_reads r1 r2 ld le (by have := hr.un; omega) ⟨.bl _, H, I, rfl, q⟩
def rInN (K : PySem.W.Frag) : R2 := fun x y H Q => ∃ d ds, DpN K H 180 x d ∧ (DpN K H 180 y (.list ds)) ∧ Q (.bl (ds.any fun z => PyData.eqv z d)) H
def rNotInN (K : PySem.W.Frag) : R2 := fun x y H Q => ∃ d ds, DpN K H 180 x d ∧ (DpN K H 180 y (.list ds)) ∧ Q (.bl (!ds.any fun z => PyData.eqv z d)) H
theorem op_inN (hr : Room j X.A) : OpR X (compareOp .In) (rInN X.K) := by
  intro pins s σ H x y v u Q I rx ry h
  obtain ⟨d, ds, ⟨hd, ld, nd⟩, ⟨he, le, ne⟩, q⟩ := h
  obtain ⟨as, r1⟩ := Dp.reads I d x v hd rx
  obtain ⟨bs, r2⟩ := Dp.reads I (.list ds) y u he ry
  exact SeqAt.in_list_reads r2 r1 (by simpa only [PyData.canLay0] using le) ld (by have := hr.un; omega) ⟨.bl _, H, I, rfl, q⟩
theorem op_notInN (hr : Room j X.A) : OpR X (compareOp .NotIn) (rNotInN X.K) := by
  intro pins s σ H x y v u Q I rx ry h
  obtain ⟨d, ds, ⟨hd, ld, nd⟩, ⟨he, le, ne⟩, q⟩ := h
  obtain ⟨as, r1⟩ := Dp.reads I d x v hd rx
  obtain ⟨bs, r2⟩ := Dp.reads I (.list ds) y u he ry
  exact SeqAt.notIn_list_reads r2 r1 (by simpa only [PyData.canLay0] using le) ld (by have := hr.un; omega) ⟨.bl _, H, I, rfl, q⟩
def rRepr (K : PySem.W.Frag) : List V → Hp → VK → Prop := fun xs H Q => ∃ a d, xs = [.ref a] ∧ DpN K H 180 (.ref a) d ∧ d.showable = true ∧ d.shown.length ≤ sizeLine ∧ Q (.str d.shown) H
theorem call_repr (hr : RoomG j X.A) : CallR X (.builtin "repr") (rRepr X.K) := by
  intro pins s σ H xs us Q I r h
  obtain ⟨a, d, rfl, ⟨hd, ld, nd⟩, hs, hz, q⟩ := h
  cases r with
  | cons rx rr =>
    cases rr
    obtain ⟨as, rd⟩ := Dp.reads I d _ _ hd rx
    cases (show _ = Value.ref a from rx)
    exact repr_of_reads' rd hs (PyData.noDict_hsm (PyData.hasDict_of_canLay d ld)) hr.gd (by have := hr.un; omega) (fun _ _ e => e) (fun h' u tk hk => ⟨.str d.shown, H, I.kept hk, ⟨_, rfl⟩, q⟩) hz
end
/-! ### the law's call -/
theorem callG_core {P : Program} {w : World} {K : PySem.W.Frag} {mg mb : Str → Option Value} {CX : CXT} {k : Nat} {fa a : Addr} {fd : FuncData} {x : Str} {sp : Sp} {s : Shared} {vs : List Value} {H : Hp}
    (KX : K.In s.heap) (gs : s.heap.Ns mainGlobals mg) (bs : s.heap.Ns builtinsNs mb) (bb : ∀ x : Str, x ≠ "__name__" → mb x = bootBuiltins x) (lim : s.heap.NoLimit) (hg : s.gens = #[])
    (ha : s.heap.get? a = some { cls := .type "list", data := .seq vs.toArray }) (hr : Room k callerA)
    (F : ∀ base : Heap, K.In base → base.Ns mainGlobals mg → FnG P w K mg base CX k fa fd [x] sp) (bind : ∀ (s : Shared) (u : Value), BindsTo s fd ⟨[u], []⟩ [(x, u)])
    (hsp : sp [.ref a] H (fun v _ => v = .bl true) fun _ _ _ => False) (hCX : ∀ H e s', CX [] H s (fun _ _ _ => False) e s' → False)
    (only : Only H) (ok : HOk P w H s.heap) (hA : ∀ b, H b ≠ none → b = a) (hK : H a ≠ none → K.lookup a = none) :
    codeAny (model P w) callerA (.call (.ref fa) ⟨[.ref a], []⟩) (fun r s' => r = .ok (.ret (.bool true)) ∧ OldK s.heap s'.heap ∧ s'.os = s.os ∧ AllBare s'.gens) s := by
  have at_ : ∀ {b : Addr}, H b ≠ none → s.heap.get? b = some { cls := .type "list", data := .seq vs.toArray } := fun {b} z => by rw [hA b z]; exact ha
  have ns : ∀ {b : Addr} {m : Str → Option Value}, s.heap.Ns b m → (hidT s.heap H).Ns b m := by
    rintro b m ⟨o, es, ep, e, d, r⟩
    refine ⟨o, es, ep, hidT_get e (Classical.byContradiction fun z => ?_), d, r⟩
    have e2 := e.symm.trans (at_ z)
    cases e2
    cases (show Data.seq vs.toArray _ = Data.dict es ep from d)
  have kin : K.In (hidT s.heap H) := fun b o e => hidT_get (KX b o e) (Classical.byContradiction fun z => by
    have zb := hA b z
    subst zb
    rw [hK z] at e
    cases e)
  have md : Mod K mg (hidT s.heap H) := ⟨kin, ns gs, ⟨mb, ns bs, bb⟩, by obtain ⟨mc, h1, h2⟩ := lim; exact ⟨mc, ns h1, h2⟩⟩
  have env : Env0 P w K mg (hidT s.heap H) callerA [] s H :=
    { frames := rfl, mod := md, bs := fun b o e => of_hidT e, bsz := Nat.le_of_eq (hidT_size _ _), funs := trivial, frf := (fun b hb => by cases (show b ∈ ([] : List Addr) from hb)), hok := ok, bare := .of_eq hg }
  have run := (F _ kin (ns gs)).run callerA [] s H ⟨[.ref a], []⟩ [.ref a] [.ref a] _ _ ⟨hr, rfl⟩ env (bind s (.ref a)) (.cons rfl .nil) hsp
  refine codeAny_mono run fun r s' h => ?_
  match r, h with
  | .error e, h => exact (hCX H e s' h).elim
  | .ok .next, h => exact False.elim h
  | .ok .brk, h => exact False.elim h
  | .ok .cont, h => exact False.elim h
  | .ok (.ret u), ⟨v, H', os, bare, un, ok', rv, q⟩ =>
    have q : v = .bl true := q
    subst q
    have eu : u = Value.bool true := rv
    subst eu
    refine ⟨rfl, OldK.of_keep fun b o e => ?_, os, bare⟩
    rcases only b with z | ⟨ob, xs, z⟩
    · exact un.keep b o e z (by intro y; cases (show b ∈ ([] : List Addr) from y)) (by simp)
    · have e1 := (ok b _ z).1
      have e2 := (ok' b _ (un.frzs b ob _ z)).1
      rw [e] at e1
      cases e1
      exact e2
theorem law_callG {P : Program} {w : World} {K : PySem.W.Frag} {mg mb : Str → Option Value} {CX : CXT} {k : Nat} {fa a : Addr} {fd : FuncData} {x : Str} {sp : Sp} {s : Shared} {vs : List Value} {ns : List Int}
    (KX : K.In s.heap) (gs : s.heap.Ns mainGlobals mg) (bs : s.heap.Ns builtinsNs mb) (bb : ∀ x : Str, x ≠ "__name__" → mb x = bootBuiltins x) (lim : s.heap.NoLimit) (hg : s.gens = #[])
    (ha : s.heap.get? a = some { cls := .type "list", data := .seq vs.toArray }) (hi : IntsAre vs ns) (hl : ns.length ≤ sizeLine) (hr : Room k callerA)
    (F : ∀ base : Heap, K.In base → base.Ns mainGlobals mg → FnG P w K mg base CX k fa fd [x] sp) (bind : ∀ (s : Shared) (u : Value), BindsTo s fd ⟨[u], []⟩ [(x, u)])
    (hsp : ∀ H : Hp, Only H → SqL K H a (ns.map V.int) → sp [.ref a] H (fun v _ => v = .bl true) fun _ _ _ => False) (hCX : ∀ H e s', CX [] H s (fun _ _ _ => False) e s' → False) :
    codeAny (model P w) callerA (.call (.ref fa) ⟨[.ref a], []⟩) (fun r s' => r = .ok (.ret (.bool true)) ∧ OldK s.heap s'.heap ∧ s'.os = s.os ∧ AllBare s'.gens) s := by
  have rv := vals_ints hi
  cases hk : K.lookup a with
  | some o =>
    have e := KX a o hk
    rw [ha] at e
    cases e
    refine callG_core (H := fun _ => none) KX gs bs bb lim hg ha hr F bind (hsp _ (fun _ => .inl rfl) (.inr ⟨_, vs.toArray, _, hk, rfl, rfl, rfl, ?_, by simpa using rv⟩)) hCX (fun _ => .inl rfl) (fun b u z => ?_) (fun b z => absurd rfl z) (fun z => absurd rfl z)
    · have := hi.length
      rw [List.size_toArray]; omega
    · cases (show (none : Option HO) = some u from z)
  | none =>
    let S : HO := .frz { cls := .type "list", data := .seq vs.toArray } (.lst (ns.map V.int))
    have on : ∀ b, (fun b => if b = a then some S else none : Hp) b = none ∨ ∃ o xs, (fun b => if b = a then some S else none : Hp) b = some (.frz o (.lst xs)) := fun b => by
      by_cases h : b = a
      · exact .inr ⟨_, _, if_pos h⟩
      · exact .inl (if_neg h)
    refine callG_core (H := fun b => if b = a then some S else none) KX gs bs bb lim hg ha hr F bind (hsp _ on (.inl (.inr ⟨_, if_pos rfl⟩))) hCX on (fun b u z => ?_) (fun b z => Classical.byContradiction fun h => z (if_neg h)) (fun _ => hk)
    by_cases h : b = a
    · have z' := (if_pos h).symm.trans z
      cases z'
      subst h
      exact ⟨ha, by rw [List.length_map]; exact hl, vs, _, rv, ha⟩
    · have z' := (if_neg h).symm.trans z
      cases z'
theorem walk_ofG {l : PySem.W.OpenLaw} {n k : Nat} {q : Program} {loose : List Str} {XP : (Str → Option Value) → Heap → Prop} {YP : World → Heap → Prop} {d : DefRec} {CX : CXT} {x : Str}
    (hn : l.most = some n) (hn2 : n ≤ sizeLine) (hdf : d.params.defaults = []) (hr : Room k callerA)
    (F : ∀ (w : World) (mg : Str → Option Value) (fa : Addr) (h : Heap), YP w h → h.Ns mainGlobals mg → mg d.name = some (.ref fa) →
      ∃ (K : PySem.W.Frag) (fd : FuncData) (sp : Sp), K.In h ∧ (∀ (s : Shared) (u : Value), BindsTo s fd ⟨[u], []⟩ [(x, u)]) ∧
        (∀ (H : Hp) (a : Addr) (ns : List Int), ns.length ≤ n → Only H → SqL K H a (ns.map V.int) → sp [.ref a] H (fun v _ => v = .bl true) fun _ _ _ => False) ∧
        ∀ base : Heap, K.In base → base.Ns mainGlobals mg → FnG l.prog w K mg base CX k fa fd [x] sp)
    (hCX : ∀ (H : Hp) (s : Shared) (e : Value) (s' : Shared), CX [] H s (fun _ _ _ => False) e s' → False) :
    PySem.W.WalkO q loose XP YP l.row.toRowW d [] (fun f vs => PySem.call f vs) := by
  refine Att.attach_call hn hdf fun w s₀ s₁ mg mb fa o pm cd doc a vs ns G Y ho hd hcd hmg hobj hints hlen hg => ?_
  obtain ⟨K, fd, sp, KX, hb, hsp, hF⟩ := F w mg fa _ Y G.T.g hmg
  exact law_callG KX G.T.g G.T.b G.T.builtins G.T.nolimit hg hobj hints (Nat.le_trans hlen hn2) hr hF hb (fun H hO hS => hsp H a ns hlen hO hS) fun H e s' => hCX H s₁ e s'
end L2

/-! Exceptions whose __init__ takes nothing and says super().__init__(text): they have no dict of their own. -/
namespace PySem
namespace HallX
open PySem.W PySem.Calls PyProof.Rows PySem.HandSPX
structure OwnMade0 (h h' : Heap) (e C : Addr) : Prop where
  keep : ∀ b o, h.get? b = some o → h'.get? b = some o
  new : h.objs.size ≤ e
  obj : ∃ oe vs, h'.get? e = some oe ∧ oe.cls = .ref C ∧ oe.dict = none ∧ oe.data = .fields vs ∧ vs[1]? = some .none
structure Init0 (prog : Program) (w : World) (qual : Str) (params : Arguments) (body : List Stmt) (scope : Scope) : Prop where
  head : ∃ a1 : Arg, a1.arg = "self" ∧ (params.posonlyargs ++ params.args).head? = some a1
  bind : ∀ (kV doc pm : Value) (an : Option Addr) (cdv ct : Value) (cc : Addr) (u : Value), bindArgs (ksFn "__init__" qual params body scope .none kV doc pm an cdv ct cc) ⟨[u], []⟩ = pure [(("self" : Str), u)]
  bd : ∃ (p0 p1 p2 p3 p4 : Pos) (msg : Expr) (pl : Sem Bool), body = [.Expr (.Call (.Attribute (.Call (.Name "super" p0) [] [] p1) "__init__" p2) [msg] [] p3) p4] ∧
    (∀ (L fI cc : Addr) (cd : Value) (m : Str → Option Value), MsgOk prog w (ksEnv qual scope L fI cd cc) L m msg) ∧
    (∀ (env : Env), env.scope = scope → starEach [msg] env = [(false, eval msg env)]) ∧
    (∀ (env : Env), env.scope = scope → eval (.Call (.Attribute (.Call (.Name "super" p0) [] [] p1) "__init__" p2) [msg] [] p3) env = (do
      let ov ← attributeBase (.Call (.Name "super" p0) [] [] p1) "__init__" env (eval (.Call (.Name "super" p0) [] [] p1) env)
      standAt p2.atName
      let (f, first) ← holding [ov] (getMethod ov "__init__" pl)
      callWith p3 f first (backTo p3 (starEach [msg] env)) []))
  hks : scope.names.lookup ("super" : Str) = some .globalImplicit
  hkc : scope.names.lookup ("__class__" : Str) = some .free
  hka : scope.names.lookup ("self" : Str) = some .local
  hk : scope.kind = .function
  hco : scope.isCoroutine = false
  hgen : scope.isGenerator = false
  hcell : ∀ x ∈ scope.names, x.2 ≠ .cell
section
variable {prog : Program} {w : World} {A : Around} {R : Result → Shared → Prop} {s : Shared} {K : Frag} {mg mb : Str → Option Value} {x : Str} {C fI cc cda : Addr} {qual : Str} {params : Arguments} {body : List Stmt} {scope : Scope}
theorem hall_init0 {e t0 : Addr} (T : HallTxt prog K mg x C fI cc cda qual params body scope) (I : Init0 prog w qual params body scope)
    (X : K.In s.heap) (G : s.heap.Ns mainGlobals mg) (Gb : s.heap.Ns builtinsNs mb) (hb : mb "super" = some (.type "super")) (hlim : s.heap.NoLimit) (he : s.heap.get? e = some (excO C t0)) (hne : K.lookup e = none)
    (hroom : A.depth < recursionLimit)
    (hq : ∀ h' tk t1, (∀ b o, b ≠ e → s.heap.get? b = some o → h'.get? b = some o) → h'.get? e = some (excO C t1) → R (.ok (.ret .none)) { s with heap := h', toks := tk }) :
    codeAny (model prog w) A (.call (.ref fI) ⟨[.ref e], []⟩) R s := by
  obtain ⟨oc, od, dV, kV, doc, pm, an, ct, osl, hf, hcd, hdv⟩ := T.fn
  obtain ⟨p0, p1, p2, p3, p4, msg, pl, rfl, hm, hst, hev⟩ := I.bd
  refine ks_codeAny_call_defAt (body := _) (binds := [(("self" : Str), .ref e)]) hroom (X _ _ hf) rfl hlim (codeRec_of X hcd) rfl (by subst hdv; exact BindsTo.of_eq (I.bind _ _ _ _ _ _ _ _)) I.hcell (fun z hz => ?_) (fun h₁ hns hk₁ => ?_) I.hco I.hgen I.hk
  · rcases List.mem_cons.mp hz with rfl | hz
    · exact I.hka
    · cases hz
  · show _root_.PySem.wpAt (model prog w) _ (.func _ (ksEnv qual scope s.heap.objs.size fI (.ref cda) cc)) (execs _ (ksEnv qual scope s.heap.objs.size fI (.ref cda) cc)) _ _ _
    have ms : (fun z => ([(("self" : Str), Value.ref e)] : List (Str × Value)).reverse.lookup z) "self" = some (.ref e) := by
      show List.lookup ("self" : Str) ([(("self" : Str), Value.ref e)] : List (Str × Value)) = some (.ref e)
      simp [List.lookup]
    obtain ⟨a1, ha1, hpar⟩ := I.head
    refine ks_wpAt_execs_cons (super_init (t0 := t0) (mb := mb) (pl := pl) (ar := a1) T (X.keeps hk₁) (G.keeps hk₁) (Gb.keeps hk₁) hb hns (hk₁ _ _ he) hne hpar (by rw [ha1]; exact ms) I.hks I.hkc (by rw [ha1]; exact I.hka) I.hk
      (hm _ _ _ _ _) (hst _ rfl) (hev _ rfl) (fun h' tk t1 k' e' => ?_))
    refine _root_.PySem.wpAt_of_wpAny ?_
    show wpAny _ _ (execs [] _) _ _ _
    exact wpAny_execs_nil (hq h' tk t1 (fun b o hbe z => k' b o hbe (hk₁ b o z)) e')
theorem hall_made0 (T : HallTxt prog K mg x C fI cc cda qual params body scope) (I : Init0 prog w qual params body scope)
    (X : K.In s.heap) (G : s.heap.Ns mainGlobals mg) (Gb : s.heap.Ns builtinsNs mb) (hb : mb "super" = some (.type "super")) (hlim : s.heap.NoLimit) (hroom : A.depth + 1 < recursionLimit)
    (hq : ∀ h' tk e, OwnMade0 s.heap h' e C → R (.ok (.ret (.ref e))) { s with heap := h', toks := tk }) :
    codeAny (model prog w) A (.call (.ref C) ⟨[], []⟩) R s := by
  obtain ⟨nm, q, N, bs, bm, sn, sub, ab, col, dd, k0, k1, k2, k3, k5, hC, hbm⟩ := T.cls
  obtain ⟨hp, g, dr, tk, os⟩ := s
  have k : ∀ b o, hp.get? b = some o → ((hp.push (kdv_tup [])).push (excO C hp.objs.size)).get? b = some o := fun b o e => Heap.get?_push_of_some _ (Heap.get?_push_of_some _ e)
  have hget : ((hp.push (kdv_tup [])).push (excO C hp.objs.size)).get? (hp.objs.size + 1) = some (excO C hp.objs.size) := by heap_get
  have hnx : K.lookup (hp.objs.size + 1) = none := by
    cases e : K.lookup (hp.objs.size + 1) with
    | none => rfl
    | some o =>
      have z : hp.get? (hp.objs.size + 1) = some o := X _ _ e
      exact absurd (Nat.lt_of_succ_lt (Heap.lt_size z)) (Nat.lt_irrefl _)
  refine call_own F.excBase_ValueError (fun X => refsVE_contains X bm hbm) (X _ _ hC) (looks_findIn X T.iC) (fun self => bind_fn X self T.tI) (Nat.zero_le _) ?_
  refine hall_init0 (s := ⟨(hp.push (kdv_tup [])).push (excO C hp.objs.size), g, dr, tk, os⟩) T I (X.keeps k) (G.keeps k) (Gb.keeps k) hb (hlim.keeps k) hget hnx ?_ fun h' tk' t1 k' hx => ?_
  · show A.depth + 1 < recursionLimit
    exact hroom
  · have old : ∀ b o, hp.get? b = some o → h'.get? b = some o := fun b o e => k' b o (Nat.ne_of_lt (Nat.lt_succ_of_lt (Heap.lt_size e))) (k b o e)
    exact ⟨rfl, hq h' tk' (hp.objs.size + 1) ⟨old, Nat.le_succ _, ⟨_, _, hx, rfl, rfl, rfl, rfl⟩⟩⟩
end
end HallX
end PySem
namespace L2
open PySem PySem.Spec PyProof.Rows PySem.HallX
section
variable {X : Cx} {x qual : Str} {C fI cc cda : Addr} {params : Arguments} {body : List Stmt} {scope : Scope}
theorem pmk_hall0 {p pos : Pos} {k : Nat} (T : HallTxt X.prog X.K X.mg x C fI cc cda qual params body scope) (J : Init0 X.prog X.w qual params body scope)
    (hr : Room k X.A) (hg : Gl X x) (hd : (x == ("__debug__" : Str)) = false := by decide) : PMk X (.Call (.Name x p) [] [] pos) (fun _ H Q => Q (.ref C) none H) := by
  intro pins s σ H Q I h
  refine wpAny_Call_Name_kw (ld_glob I hg T.gC ?_ hd)
  refine PySem.W.callWith_K0 I.kIn T.kC ?_
  have hlim := I.nolimit
  obtain ⟨mb, hb1, hb2⟩ := I.mod.blt
  have G := I.mod.glob.keeps I.bk
  have Gb := hb1.keeps I.bk
  have hb : mb "super" = some (.type "super") := (hb2 "super" (by decide)).trans boot_super
  have hkin := I.kIn
  obtain ⟨hp, g, dr, tk, os⟩ := s
  refine wpAny_call (hall_made0 (mb := mb) T J hkin G Gb hb hlim (by have := hr.dp; omega) fun h' tk' e M => ?_)
  show MkP X pins σ Q (.ref e) ⟨h', g, dr, tk', os⟩
  obtain ⟨oe, fv, hoe, hc, hd, hdat, h1⟩ := M.obj
  have ge : hp.get? e = none := by
    cases q : hp.get? e with
    | none => rfl
    | some o => exact absurd (Heap.lt_size q) (Nat.not_lt.mpr M.new)
  exact ⟨e, oe, fv, ⟨hp, g, dr, tk, os⟩, _, .ref C, none, rfl, I, fun b o q => M.keep b o q, ge, hoe, ⟨hc, hd⟩, hdat, h1, I.hok.fresh M.new, rfl, I.bare, raises_own T.exC T.tyC, h⟩
/-- raise C() -/
theorem ps_raise0 {W : WX} {p pos pos2 : Pos} {k : Nat} (hc : X.calm = true) (T : HallTxt X.prog X.K X.mg x C fI cc cda qual params body scope) (J : Init0 X.prog X.w qual params body scope)
    (hr : Room k X.A) (tk : Takes X W) (hg : Gl X x) (hd : (x == ("__debug__" : Str)) = false := by decide) :
    PS X (.Raise (some (.Call (.Name x p) [] [] pos)) none pos2) (fun _ σ H => W (.ref C) none σ H) := ps_raise hc tk (pmk_hall0 T J hr hg hd)
end
/-- isinstance(e, c) of a caught error without a dict -/
def rIsEn (K : PySem.W.Frag) (a : Addr) (cls : Value) (d : Option Addr) : List V → Hp → VK → Prop := fun xs H Q => ∃ (c : V) (cv : Value) (b : Bool) (D : Addr), xs = [.ref a, c] ∧ cls = .ref D ∧ ExcC K D ∧ d = none ∧
  (∀ u, RelV c u → u = cv) ∧ PySem.W.kitOne K (.ref D) cv = some b ∧ Q (.bl b) H
theorem call_isEn {X : Cx} {a : Addr} {cls : Value} {d : Option Addr} {oe : Obj} {pn : List (Addr × Obj)} (hz : Zc cls d oe) (hf : ∃ vs, oe.data = .fields vs) : CallR (X.suite a ((a, oe) :: pn)) (.builtin "isinstance") (rIsEn X.K a cls d) := by
  intro pins s σ H xs us Q I r h
  obtain ⟨c, cv, b, D, rfl, rfl, C, rfl, hcv, e, q⟩ := h
  exact call_isE C hz hf pins s σ H _ us Q I r ⟨c, cv, b, rfl, hcv, e, q⟩
end L2

namespace K01
open PySem PySem.Spec PyProof.Rows L2
abbrev P : Program := PySem.Challenge.pw_lemmahall_k01_substitution
def top (i : Nat) : Stmt := PySem.Challenge.pw_lemmahall_k01_substitution.main.body.getD i (.Pass ⟨0, 0, 0, 0⟩)
abbrev s_put_kind : Stmt := top 4
abbrev s_var : Stmt := top 7
abbrev s_const : Stmt := top 8
abbrev s_app : Stmt := top 9
abbrev s_lam : Stmt := top 10
abbrev s_measure : Stmt := top 11
abbrev s_parts : Stmt := top 12
abbrev s_kind_within : Stmt := top 13
abbrev s_free_vars : Stmt := top 14
abbrev s_term_consts : Stmt := top 15
abbrev s_pairs_of : Stmt := top 16
abbrev s_abstracted : Stmt := top 17
abbrev s_abstract : Stmt := top 18
abbrev s_instantiated : Stmt := top 19
abbrev s_instantiate : Stmt := top 20
abbrev s_replaced : Stmt := top 21
abbrev s_put_terms : Stmt := top 22
abbrev s_put_kinds : Stmt := top 23
abbrev s_law_pot : Stmt := top 25
abbrev s_law_take : Stmt := top 26
abbrev s_law_mended : Stmt := top 27
abbrev s_law_name : Stmt := top 28
abbrev s_law_near : Stmt := top 29
abbrev s_law_words : Stmt := top 30
abbrev s_law_same : Stmt := top 31
abbrev s_law_pool : Stmt := top 32
abbrev s_law_tip : Stmt := top 33
abbrev s_law_grown : Stmt := top 34
abbrev s_law_levels : Stmt := top 35
abbrev s_law_built : Stmt := top 36
abbrev s_law_once : Stmt := top 37
abbrev s_law_abstracted : Stmt := top 38
abbrev s_law_instantiated : Stmt := top 39
abbrev s_law_put : Stmt := top 40
abbrev s_law_kind_put : Stmt := top 41
abbrev s_law_told_put : Stmt := top 42
abbrev s_law_told_instance : Stmt := top 43
abbrev s_law_right : Stmt := top 44
abbrev s_law_ask_builders : Stmt := top 45
abbrev s_law_new : Stmt := top 46
abbrev s_law_ask_abstract : Stmt := top 47
abbrev s_law_ask_put : Stmt := top 48
abbrev s_law_ask_kinds : Stmt := top 49
abbrev s_law_fills : Stmt := top 50
abbrev s_law_general : Stmt := top 51
abbrev s_law_wide : Stmt := top 52
abbrev s_law_ask_wide : Stmt := top 53
abbrev s_law_ask_deep : Stmt := top 54
abbrev s_law : Stmt := top 55
def dd (x : Str) (i : Nat) : He.DefD := ⟨(x, none), x, x, defArgs (top i), defBody (top i), defScope (top i), [], []⟩
def ddm (c m q : Str) (i j : Nat) : He.DefD := ⟨(c, some m), m, q, defArgs (inClass (top i) j), defBody (inClass (top i) j), defScope (inClass (top i) j), [], []⟩
def fn : List He.DefD := ([dd "put_kind" 4, dd "var" 7, dd "const" 8, dd "app" 9, dd "lam" 10, dd "measure" 11, dd "_parts" 12, dd "kind_within" 13, dd "free_vars" 14, dd "term_consts" 15, dd "_pairs_of" 16, dd "_abstracted" 17, dd "abstract" 18, dd "_instantiated" 19, dd "instantiate" 20, dd "_replaced" 21, dd "put_terms" 22, dd "put_kinds" 23, dd "_law_pot" 25, dd "_law_take" 26, dd "_law_mended" 27, dd "_law_name" 28, dd "_law_near" 29, dd "_law_words" 30] : List He.DefD) ++ ([dd "_law_same" 31, dd "_law_pool" 32, dd "_law_tip" 33, dd "_law_grown" 34, dd "_law_levels" 35, dd "_law_built" 36, dd "_law_once" 37, dd "_law_abstracted" 38, dd "_law_instantiated" 39, dd "_law_put" 40, dd "_law_kind_put" 41, dd "_law_told_put" 42, dd "_law_told_instance" 43, dd "_law_right" 44, dd "_law_ask_builders" 45, dd "_law_new" 46, dd "_law_ask_abstract" 47, dd "_law_ask_put" 48, dd "_law_ask_kinds" 49, dd "_law_fills" 50, dd "_law_general" 51, dd "_law_wide" 52, dd "_law_ask_wide" 53, dd "_law_ask_deep" 54] : List He.DefD) ++ ([dd "law" 55] : List He.DefD)
def fa : List He.Fa := ([.glo "put_kind", .glo "var", .glo "const", .glo "app", .glo "lam", .glo "measure", .glo "_parts", .glo "kind_within", .glo "free_vars", .glo "term_consts", .glo "_pairs_of", .glo "_abstracted", .glo "abstract", .glo "_instantiated", .glo "instantiate", .glo "_replaced", .glo "put_terms", .glo "put_kinds", .glo "_law_pot", .glo "_law_take", .glo "_law_mended", .glo "_law_name", .glo "_law_near", .glo "_law_words"] : List He.Fa) ++ ([.glo "_law_same", .glo "_law_pool", .glo "_law_tip", .glo "_law_grown", .glo "_law_levels", .glo "_law_built", .glo "_law_once", .glo "_law_abstracted", .glo "_law_instantiated", .glo "_law_put", .glo "_law_kind_put", .glo "_law_told_put", .glo "_law_told_instance", .glo "_law_right", .glo "_law_ask_builders", .glo "_law_new", .glo "_law_ask_abstract", .glo "_law_ask_put", .glo "_law_ask_kinds", .glo "_law_fills", .glo "_law_general", .glo "_law_wide", .glo "_law_ask_wide", .glo "_law_ask_deep"] : List He.Fa) ++ ([.glo "law", .free "max", .free "tuple", .free "len", .free "abs", .free "int", .free "range", .free "isinstance", .free "repr", .free "list", .free "str", .free "dict", .free "min", .int "MAX_NODES" 400, .glo "HallError", .glo "TooLarge", .exm "TooLarge" "TooLarge" true] : List He.Fa)
def h_TooLarge : HallHt.HallD := ⟨"TooLarge", "limit", "TooLarge.__init__", defArgs (inClass (top 2) 0), defBody (inClass (top 2) 0), defScope (inClass (top 2) 0)⟩
def hs : List HallHt.HallD := [h_TooLarge]
def file : Str := PySem.Challenge.pw_lemmahall_k01_substitution.main.file
def ts : List He.Tab := []
def exl (K : PySem.W.Frag) : List Bool := ([HallHt.hallB file K h_TooLarge, HallHt.noFld K h_TooLarge, decide (PySem.W.kitOne K (.ref (He.ga K "TooLarge")) (.ref (He.ga K "HallError")) = some true)] : List Bool)
def ex (K : PySem.W.Frag) : Bool := (exl K).all id
abbrev R : PySem.W.OpenRow := PySem.W.OpenLaw.row PySem.Challenge.rw_lemmahall_k01_substitution
abbrev hk : PySem.W.Hook := HallHt.hookH 5 fa fn hs ex ts
def ob (s : PySem.W.SharedT) : HallHt.AlH := HallHt.obsHG 5 fa fn hs ex ts (HandSHeadRun.getT s)
theorem ob_eq (s : PySem.W.SharedT) : ob s = hk.obs s.abs := HallHt.obsHG_eq (HandSHeadRun.getT_eq s)
def loose : List PySem.Str := (["HallError", "TooLarge", "MAX_NODES", "put_kind", "var", "const", "app", "lam", "measure", "_parts", "kind_within", "free_vars", "term_consts", "_pairs_of", "_abstracted", "abstract", "_instantiated", "instantiate", "_replaced", "put_terms", "put_kinds", "_law_pot", "_law_take", "_law_mended"] : List PySem.Str) ++ (["_law_name", "_law_near", "_law_words", "_law_same", "_law_pool", "_law_tip", "_law_grown", "_law_levels", "_law_built", "_law_once", "_law_abstracted", "_law_instantiated", "_law_put", "_law_kind_put", "_law_told_put", "_law_told_instance", "_law_right", "_law_ask_builders", "_law_new", "_law_ask_abstract", "_law_ask_put", "_law_ask_kinds", "_law_fills", "_law_general"] : List PySem.Str) ++ (["_law_wide", "_law_ask_wide", "_law_ask_deep"] : List PySem.Str)
theorem run (w : World) : HandSHeadRun.RunEq R (PySem.W.view R.prog [55]) hk ob 3000 loose w := by
  intro os
  kernel_rfl
/-- what the top has written, by names -/
structure Txt (w : World) (K : PySem.W.Frag) (mg : Str → Option Value) : Prop where
  f_max : mg "max" = none
  f_tuple : mg "tuple" = none
  f_len : mg "len" = none
  f_abs : mg "abs" = none
  f_int : mg "int" = none
  f_range : mg "range" = none
  f_isinstance : mg "isinstance" = none
  f_repr : mg "repr" = none
  f_list : mg "list" = none
  f_str : mg "str" = none
  f_dict : mg "dict" = none
  f_min : mg "min" = none
  v_MAX_NODES : ∃ u, mg "MAX_NODES" = some u ∧ RelV (.int 400) u
  v_HallError : ∃ u, mg "HallError" = some u ∧ RelV (.ref (He.ga K "HallError")) u
  g_HallError : mg "HallError" = some (.ref (He.ga K "HallError"))
  v_TooLarge : ∃ u, mg "TooLarge" = some u ∧ RelV (.ref (He.ga K "TooLarge")) u
  g_TooLarge : mg "TooLarge" = some (.ref (He.ga K "TooLarge"))
  x_TooLarge_TooLarge : PySem.W.exmOne K (.ref (He.ga K "TooLarge")) (.ref (He.ga K "TooLarge")) = some true
  h_TooLarge : PySem.HallX.HallTxt PySem.Challenge.pw_lemmahall_k01_substitution K mg "TooLarge" (HallHt.cAd K "TooLarge") (HallHt.iAd K "TooLarge") (HallHt.cellAd K "TooLarge") (HallHt.codeAd K "TooLarge") h_TooLarge.qual h_TooLarge.params h_TooLarge.body h_TooLarge.scope
  e_TooLarge : ExcC K (HallHt.cAd K "TooLarge")
  n_TooLarge : PySem.W.findIn K (.ref (HallHt.cAd K "TooLarge")) "limit" = some none
  k_TooLarge_HallError : PySem.W.kitOne K (.ref (He.ga K "TooLarge")) (.ref (He.ga K "HallError")) = some true
theorem exl_at {K : PySem.W.Frag} (h : ex K = true) (i : Nat) {b : Bool} (e : (exl K)[i]? = some b) : b = true := by
  have z := List.all_eq_true.mp h b (List.mem_of_getElem? e)
  exact z
theorem txt_of {w : World} {K : PySem.W.Frag} {h : Heap} {mg : Str → Option Value} (X : K.In h) (G : h.Ns mainGlobals mg) (c : HallHt.SaysH fa fn hs ex ts w K) : Txt w K mg where
  f_max := He.free_ok X G (c.d.fact 49 (f := .free "max") rfl)
  f_tuple := He.free_ok X G (c.d.fact 50 (f := .free "tuple") rfl)
  f_len := He.free_ok X G (c.d.fact 51 (f := .free "len") rfl)
  f_abs := He.free_ok X G (c.d.fact 52 (f := .free "abs") rfl)
  f_int := He.free_ok X G (c.d.fact 53 (f := .free "int") rfl)
  f_range := He.free_ok X G (c.d.fact 54 (f := .free "range") rfl)
  f_isinstance := He.free_ok X G (c.d.fact 55 (f := .free "isinstance") rfl)
  f_repr := He.free_ok X G (c.d.fact 56 (f := .free "repr") rfl)
  f_list := He.free_ok X G (c.d.fact 57 (f := .free "list") rfl)
  f_str := He.free_ok X G (c.d.fact 58 (f := .free "str") rfl)
  f_dict := He.free_ok X G (c.d.fact 59 (f := .free "dict") rfl)
  f_min := He.free_ok X G (c.d.fact 60 (f := .free "min") rfl)
  v_MAX_NODES := by obtain ⟨t, e⟩ := He.int_ok X G (c.d.fact 61 (f := .int "MAX_NODES" 400) rfl); exact ⟨_, e, ⟨t, rfl⟩⟩
  v_HallError := ⟨_, He.glo_ok X G (c.d.fact 62 (f := .glo "HallError") rfl), rfl⟩
  g_HallError := He.glo_ok X G (c.d.fact 62 (f := .glo "HallError") rfl)
  v_TooLarge := ⟨_, He.glo_ok X G (c.d.fact 63 (f := .glo "TooLarge") rfl), rfl⟩
  g_TooLarge := He.glo_ok X G (c.d.fact 63 (f := .glo "TooLarge") rfl)
  x_TooLarge_TooLarge := He.exm_ok (c.d.fact 64 (f := .exm "TooLarge" "TooLarge" true) rfl)
  h_TooLarge := (HallHt.hall_of (prog := PySem.Challenge.pw_lemmahall_k01_substitution) (d := h_TooLarge) X G (c.hall 0 rfl) (exl_at c.more 0 rfl) (by decide +kernel)).1
  e_TooLarge := (HallHt.hall_of (prog := PySem.Challenge.pw_lemmahall_k01_substitution) (d := h_TooLarge) X G (c.hall 0 rfl) (exl_at c.more 0 rfl) (by decide +kernel)).2
  n_TooLarge := HallHt.noFld_ok (d := h_TooLarge) (exl_at c.more 1 rfl)
  k_TooLarge_HallError := of_decide_eq_true (exl_at c.more 2 rfl)
abbrev Fn_put_kind (K : PySem.W.Frag) (fd : FuncData) : Prop := FunD K "put_kind" "put_kind" (defArgs s_put_kind) (defBody s_put_kind) (defScope s_put_kind) [] [] (He.ga K "put_kind") fd
abbrev Fn_var (K : PySem.W.Frag) (fd : FuncData) : Prop := FunD K "var" "var" (defArgs s_var) (defBody s_var) (defScope s_var) [] [] (He.ga K "var") fd
abbrev Fn_const (K : PySem.W.Frag) (fd : FuncData) : Prop := FunD K "const" "const" (defArgs s_const) (defBody s_const) (defScope s_const) [] [] (He.ga K "const") fd
abbrev Fn_app (K : PySem.W.Frag) (fd : FuncData) : Prop := FunD K "app" "app" (defArgs s_app) (defBody s_app) (defScope s_app) [] [] (He.ga K "app") fd
abbrev Fn_lam (K : PySem.W.Frag) (fd : FuncData) : Prop := FunD K "lam" "lam" (defArgs s_lam) (defBody s_lam) (defScope s_lam) [] [] (He.ga K "lam") fd
abbrev Fn_measure (K : PySem.W.Frag) (fd : FuncData) : Prop := FunD K "measure" "measure" (defArgs s_measure) (defBody s_measure) (defScope s_measure) [] [] (He.ga K "measure") fd
abbrev Fn_parts (K : PySem.W.Frag) (fd : FuncData) : Prop := FunD K "_parts" "_parts" (defArgs s_parts) (defBody s_parts) (defScope s_parts) [] [] (He.ga K "_parts") fd
abbrev Fn_kind_within (K : PySem.W.Frag) (fd : FuncData) : Prop := FunD K "kind_within" "kind_within" (defArgs s_kind_within) (defBody s_kind_within) (defScope s_kind_within) [] [] (He.ga K "kind_within") fd
abbrev Fn_free_vars (K : PySem.W.Frag) (fd : FuncData) : Prop := FunD K "free_vars" "free_vars" (defArgs s_free_vars) (defBody s_free_vars) (defScope s_free_vars) [] [] (He.ga K "free_vars") fd
abbrev Fn_term_consts (K : PySem.W.Frag) (fd : FuncData) : Prop := FunD K "term_consts" "term_consts" (defArgs s_term_consts) (defBody s_term_consts) (defScope s_term_consts) [] [] (He.ga K "term_consts") fd
abbrev Fn_pairs_of (K : PySem.W.Frag) (fd : FuncData) : Prop := FunD K "_pairs_of" "_pairs_of" (defArgs s_pairs_of) (defBody s_pairs_of) (defScope s_pairs_of) [] [] (He.ga K "_pairs_of") fd
abbrev Fn_abstracted (K : PySem.W.Frag) (fd : FuncData) : Prop := FunD K "_abstracted" "_abstracted" (defArgs s_abstracted) (defBody s_abstracted) (defScope s_abstracted) [] [] (He.ga K "_abstracted") fd
abbrev Fn_abstract (K : PySem.W.Frag) (fd : FuncData) : Prop := FunD K "abstract" "abstract" (defArgs s_abstract) (defBody s_abstract) (defScope s_abstract) [] [] (He.ga K "abstract") fd
abbrev Fn_instantiated (K : PySem.W.Frag) (fd : FuncData) : Prop := FunD K "_instantiated" "_instantiated" (defArgs s_instantiated) (defBody s_instantiated) (defScope s_instantiated) [] [] (He.ga K "_instantiated") fd
abbrev Fn_instantiate (K : PySem.W.Frag) (fd : FuncData) : Prop := FunD K "instantiate" "instantiate" (defArgs s_instantiate) (defBody s_instantiate) (defScope s_instantiate) [] [] (He.ga K "instantiate") fd
abbrev Fn_replaced (K : PySem.W.Frag) (fd : FuncData) : Prop := FunD K "_replaced" "_replaced" (defArgs s_replaced) (defBody s_replaced) (defScope s_replaced) [] [] (He.ga K "_replaced") fd
abbrev Fn_put_terms (K : PySem.W.Frag) (fd : FuncData) : Prop := FunD K "put_terms" "put_terms" (defArgs s_put_terms) (defBody s_put_terms) (defScope s_put_terms) [] [] (He.ga K "put_terms") fd
abbrev Fn_put_kinds (K : PySem.W.Frag) (fd : FuncData) : Prop := FunD K "put_kinds" "put_kinds" (defArgs s_put_kinds) (defBody s_put_kinds) (defScope s_put_kinds) [] [] (He.ga K "put_kinds") fd
abbrev Fn_law_pot (K : PySem.W.Frag) (fd : FuncData) : Prop := FunD K "_law_pot" "_law_pot" (defArgs s_law_pot) (defBody s_law_pot) (defScope s_law_pot) [] [] (He.ga K "_law_pot") fd
abbrev Fn_law_take (K : PySem.W.Frag) (fd : FuncData) : Prop := FunD K "_law_take" "_law_take" (defArgs s_law_take) (defBody s_law_take) (defScope s_law_take) [] [] (He.ga K "_law_take") fd
abbrev Fn_law_mended (K : PySem.W.Frag) (fd : FuncData) : Prop := FunD K "_law_mended" "_law_mended" (defArgs s_law_mended) (defBody s_law_mended) (defScope s_law_mended) [] [] (He.ga K "_law_mended") fd
abbrev Fn_law_name (K : PySem.W.Frag) (fd : FuncData) : Prop := FunD K "_law_name" "_law_name" (defArgs s_law_name) (defBody s_law_name) (defScope s_law_name) [] [] (He.ga K "_law_name") fd
abbrev Fn_law_near (K : PySem.W.Frag) (fd : FuncData) : Prop := FunD K "_law_near" "_law_near" (defArgs s_law_near) (defBody s_law_near) (defScope s_law_near) [] [] (He.ga K "_law_near") fd
abbrev Fn_law_words (K : PySem.W.Frag) (fd : FuncData) : Prop := FunD K "_law_words" "_law_words" (defArgs s_law_words) (defBody s_law_words) (defScope s_law_words) [] [] (He.ga K "_law_words") fd
abbrev Fn_law_same (K : PySem.W.Frag) (fd : FuncData) : Prop := FunD K "_law_same" "_law_same" (defArgs s_law_same) (defBody s_law_same) (defScope s_law_same) [] [] (He.ga K "_law_same") fd
abbrev Fn_law_pool (K : PySem.W.Frag) (fd : FuncData) : Prop := FunD K "_law_pool" "_law_pool" (defArgs s_law_pool) (defBody s_law_pool) (defScope s_law_pool) [] [] (He.ga K "_law_pool") fd
abbrev Fn_law_tip (K : PySem.W.Frag) (fd : FuncData) : Prop := FunD K "_law_tip" "_law_tip" (defArgs s_law_tip) (defBody s_law_tip) (defScope s_law_tip) [] [] (He.ga K "_law_tip") fd
abbrev Fn_law_grown (K : PySem.W.Frag) (fd : FuncData) : Prop := FunD K "_law_grown" "_law_grown" (defArgs s_law_grown) (defBody s_law_grown) (defScope s_law_grown) [] [] (He.ga K "_law_grown") fd
abbrev Fn_law_levels (K : PySem.W.Frag) (fd : FuncData) : Prop := FunD K "_law_levels" "_law_levels" (defArgs s_law_levels) (defBody s_law_levels) (defScope s_law_levels) [] [] (He.ga K "_law_levels") fd
abbrev Fn_law_built (K : PySem.W.Frag) (fd : FuncData) : Prop := FunD K "_law_built" "_law_built" (defArgs s_law_built) (defBody s_law_built) (defScope s_law_built) [] [] (He.ga K "_law_built") fd
abbrev Fn_law_once (K : PySem.W.Frag) (fd : FuncData) : Prop := FunD K "_law_once" "_law_once" (defArgs s_law_once) (defBody s_law_once) (defScope s_law_once) [] [] (He.ga K "_law_once") fd
abbrev Fn_law_abstracted (K : PySem.W.Frag) (fd : FuncData) : Prop := FunD K "_law_abstracted" "_law_abstracted" (defArgs s_law_abstracted) (defBody s_law_abstracted) (defScope s_law_abstracted) [] [] (He.ga K "_law_abstracted") fd
abbrev Fn_law_instantiated (K : PySem.W.Frag) (fd : FuncData) : Prop := FunD K "_law_instantiated" "_law_instantiated" (defArgs s_law_instantiated) (defBody s_law_instantiated) (defScope s_law_instantiated) [] [] (He.ga K "_law_instantiated") fd
abbrev Fn_law_put (K : PySem.W.Frag) (fd : FuncData) : Prop := FunD K "_law_put" "_law_put" (defArgs s_law_put) (defBody s_law_put) (defScope s_law_put) [] [] (He.ga K "_law_put") fd
abbrev Fn_law_kind_put (K : PySem.W.Frag) (fd : FuncData) : Prop := FunD K "_law_kind_put" "_law_kind_put" (defArgs s_law_kind_put) (defBody s_law_kind_put) (defScope s_law_kind_put) [] [] (He.ga K "_law_kind_put") fd
abbrev Fn_law_told_put (K : PySem.W.Frag) (fd : FuncData) : Prop := FunD K "_law_told_put" "_law_told_put" (defArgs s_law_told_put) (defBody s_law_told_put) (defScope s_law_told_put) [] [] (He.ga K "_law_told_put") fd
abbrev Fn_law_told_instance (K : PySem.W.Frag) (fd : FuncData) : Prop := FunD K "_law_told_instance" "_law_told_instance" (defArgs s_law_told_instance) (defBody s_law_told_instance) (defScope s_law_told_instance) [] [] (He.ga K "_law_told_instance") fd
abbrev Fn_law_right (K : PySem.W.Frag) (fd : FuncData) : Prop := FunD K "_law_right" "_law_right" (defArgs s_law_right) (defBody s_law_right) (defScope s_law_right) [] [] (He.ga K "_law_right") fd
abbrev Fn_law_ask_builders (K : PySem.W.Frag) (fd : FuncData) : Prop := FunD K "_law_ask_builders" "_law_ask_builders" (defArgs s_law_ask_builders) (defBody s_law_ask_builders) (defScope s_law_ask_builders) [] [] (He.ga K "_law_ask_builders") fd
abbrev Fn_law_new (K : PySem.W.Frag) (fd : FuncData) : Prop := FunD K "_law_new" "_law_new" (defArgs s_law_new) (defBody s_law_new) (defScope s_law_new) [] [] (He.ga K "_law_new") fd
abbrev Fn_law_ask_abstract (K : PySem.W.Frag) (fd : FuncData) : Prop := FunD K "_law_ask_abstract" "_law_ask_abstract" (defArgs s_law_ask_abstract) (defBody s_law_ask_abstract) (defScope s_law_ask_abstract) [] [] (He.ga K "_law_ask_abstract") fd
abbrev Fn_law_ask_put (K : PySem.W.Frag) (fd : FuncData) : Prop := FunD K "_law_ask_put" "_law_ask_put" (defArgs s_law_ask_put) (defBody s_law_ask_put) (defScope s_law_ask_put) [] [] (He.ga K "_law_ask_put") fd
abbrev Fn_law_ask_kinds (K : PySem.W.Frag) (fd : FuncData) : Prop := FunD K "_law_ask_kinds" "_law_ask_kinds" (defArgs s_law_ask_kinds) (defBody s_law_ask_kinds) (defScope s_law_ask_kinds) [] [] (He.ga K "_law_ask_kinds") fd
abbrev Fn_law_fills (K : PySem.W.Frag) (fd : FuncData) : Prop := FunD K "_law_fills" "_law_fills" (defArgs s_law_fills) (defBody s_law_fills) (defScope s_law_fills) [] [] (He.ga K "_law_fills") fd
abbrev Fn_law_general (K : PySem.W.Frag) (fd : FuncData) : Prop := FunD K "_law_general" "_law_general" (defArgs s_law_general) (defBody s_law_general) (defScope s_law_general) [] [] (He.ga K "_law_general") fd
abbrev Fn_law_wide (K : PySem.W.Frag) (fd : FuncData) : Prop := FunD K "_law_wide" "_law_wide" (defArgs s_law_wide) (defBody s_law_wide) (defScope s_law_wide) [] [] (He.ga K "_law_wide") fd
abbrev Fn_law_ask_wide (K : PySem.W.Frag) (fd : FuncData) : Prop := FunD K "_law_ask_wide" "_law_ask_wide" (defArgs s_law_ask_wide) (defBody s_law_ask_wide) (defScope s_law_ask_wide) [] [] (He.ga K "_law_ask_wide") fd
abbrev Fn_law_ask_deep (K : PySem.W.Frag) (fd : FuncData) : Prop := FunD K "_law_ask_deep" "_law_ask_deep" (defArgs s_law_ask_deep) (defBody s_law_ask_deep) (defScope s_law_ask_deep) [] [] (He.ga K "_law_ask_deep") fd
abbrev Fn_law (K : PySem.W.Frag) (fd : FuncData) : Prop := FunD K "law" "law" (defArgs s_law) (defBody s_law) (defScope s_law) [] [] (He.ga K "law") fd
theorem sc_put_kind : FnScope ["kind", "table"] ["kind", "table"] (defScope s_put_kind) := ⟨rfl, rfl, rfl, by decide +kernel, rfl, by decide +kernel, by decide +kernel⟩
theorem b_put_kind {K : PySem.W.Frag} {fd : FuncData} (F : Fn_put_kind K fd) : Binds K fd ["kind", "table"] [] := F.bindsN fun _ _ _ _ _ _ us hl => match us, hl with | [_, _], _ => rfl
theorem sc_var : FnScope ["name", "kind"] ["name", "kind"] (defScope s_var) := ⟨rfl, rfl, rfl, by decide +kernel, rfl, by decide +kernel, by decide +kernel⟩
theorem b_var {K : PySem.W.Frag} {fd : FuncData} (F : Fn_var K fd) : Binds K fd ["name", "kind"] [] := F.bindsN fun _ _ _ _ _ _ us hl => match us, hl with | [_, _], _ => rfl
theorem sc_const : FnScope ["name", "kind"] ["name", "kind"] (defScope s_const) := ⟨rfl, rfl, rfl, by decide +kernel, rfl, by decide +kernel, by decide +kernel⟩
theorem b_const {K : PySem.W.Frag} {fd : FuncData} (F : Fn_const K fd) : Binds K fd ["name", "kind"] [] := F.bindsN fun _ _ _ _ _ _ us hl => match us, hl with | [_, _], _ => rfl
theorem sc_app : FnScope ["function", "arguments", "term", "argument"] ["function"] (defScope s_app) := ⟨rfl, rfl, rfl, by decide +kernel, rfl, by decide +kernel, by decide +kernel⟩
theorem sc_lam : FnScope ["name", "kind", "body"] ["name", "kind", "body"] (defScope s_lam) := ⟨rfl, rfl, rfl, by decide +kernel, rfl, by decide +kernel, by decide +kernel⟩
theorem b_lam {K : PySem.W.Frag} {fd : FuncData} (F : Fn_lam K fd) : Binds K fd ["name", "kind", "body"] [] := F.bindsN fun _ _ _ _ _ _ us hl => match us, hl with | [_, _, _], _ => rfl
theorem sc_measure : FnScope ["term", "many", "deepest", "waiting", "part", "depth"] ["term"] (defScope s_measure) := ⟨rfl, rfl, rfl, by decide +kernel, rfl, by decide +kernel, by decide +kernel⟩
theorem b_measure {K : PySem.W.Frag} {fd : FuncData} (F : Fn_measure K fd) : Binds K fd ["term"] [] := F.bindsN fun _ _ _ _ _ _ us hl => match us, hl with | [_], _ => rfl
theorem sc_parts : FnScope ["term", "found", "waiting", "part", "level"] ["term"] (defScope s_parts) := ⟨rfl, rfl, rfl, by decide +kernel, rfl, by decide +kernel, by decide +kernel⟩
theorem b_parts {K : PySem.W.Frag} {fd : FuncData} (F : Fn_parts K fd) : Binds K fd ["term"] [] := F.bindsN fun _ _ _ _ _ _ us hl => match us, hl with | [_], _ => rfl
theorem sc_kind_within : FnScope ["part", "around"] ["part", "around"] (defScope s_kind_within) := ⟨rfl, rfl, rfl, by decide +kernel, rfl, by decide +kernel, by decide +kernel⟩
theorem b_kind_within {K : PySem.W.Frag} {fd : FuncData} (F : Fn_kind_within K fd) : Binds K fd ["part", "around"] [] := F.bindsN fun _ _ _ _ _ _ us hl => match us, hl with | [_, _], _ => rfl
theorem sc_free_vars : FnScope ["term"] ["term"] (defScope s_free_vars) := ⟨rfl, rfl, rfl, by decide +kernel, rfl, by decide +kernel, by decide +kernel⟩
theorem b_free_vars {K : PySem.W.Frag} {fd : FuncData} (F : Fn_free_vars K fd) : Binds K fd ["term"] [] := F.bindsN fun _ _ _ _ _ _ us hl => match us, hl with | [_], _ => rfl
theorem sc_term_consts : FnScope ["term"] ["term"] (defScope s_term_consts) := ⟨rfl, rfl, rfl, by decide +kernel, rfl, by decide +kernel, by decide +kernel⟩
theorem b_term_consts {K : PySem.W.Frag} {fd : FuncData} (F : Fn_term_consts K fd) : Binds K fd ["term"] [] := F.bindsN fun _ _ _ _ _ _ us hl => match us, hl with | [_], _ => rfl
theorem sc_pairs_of : FnScope ["term", "word", "found", "part", "_"] ["term", "word"] (defScope s_pairs_of) := ⟨rfl, rfl, rfl, by decide +kernel, rfl, by decide +kernel, by decide +kernel⟩
theorem b_pairs_of {K : PySem.W.Frag} {fd : FuncData} (F : Fn_pairs_of K fd) : Binds K fd ["term", "word"] [] := F.bindsN fun _ _ _ _ _ _ us hl => match us, hl with | [_, _], _ => rfl
theorem sc_abstracted : FnScope ["part", "variable", "level"] ["part", "variable", "level"] (defScope s_abstracted) := ⟨rfl, rfl, rfl, by decide +kernel, rfl, by decide +kernel, by decide +kernel⟩
theorem b_abstracted {K : PySem.W.Frag} {fd : FuncData} (F : Fn_abstracted K fd) : Binds K fd ["part", "variable", "level"] [] := F.bindsN fun _ _ _ _ _ _ us hl => match us, hl with | [_, _, _], _ => rfl
theorem sc_abstract : FnScope ["term", "name", "kind"] ["term", "name", "kind"] (defScope s_abstract) := ⟨rfl, rfl, rfl, by decide +kernel, rfl, by decide +kernel, by decide +kernel⟩
theorem b_abstract {K : PySem.W.Frag} {fd : FuncData} (F : Fn_abstract K fd) : Binds K fd ["term", "name", "kind"] [] := F.bindsN fun _ _ _ _ _ _ us hl => match us, hl with | [_, _, _], _ => rfl
theorem sc_instantiated : FnScope ["part", "value", "level"] ["part", "value", "level"] (defScope s_instantiated) := ⟨rfl, rfl, rfl, by decide +kernel, rfl, by decide +kernel, by decide +kernel⟩
theorem b_instantiated {K : PySem.W.Frag} {fd : FuncData} (F : Fn_instantiated K fd) : Binds K fd ["part", "value", "level"] [] := F.bindsN fun _ _ _ _ _ _ us hl => match us, hl with | [_, _, _], _ => rfl
theorem sc_instantiate : FnScope ["body", "value", "each", "many", "part", "level"] ["body", "value"] (defScope s_instantiate) := ⟨rfl, rfl, rfl, by decide +kernel, rfl, by decide +kernel, by decide +kernel⟩
theorem b_instantiate {K : PySem.W.Frag} {fd : FuncData} (F : Fn_instantiate K fd) : Binds K fd ["body", "value"] [] := F.bindsN fun _ _ _ _ _ _ us hl => match us, hl with | [_, _], _ => rfl
theorem sc_replaced : FnScope ["part", "values"] ["part", "values"] (defScope s_replaced) := ⟨rfl, rfl, rfl, by decide +kernel, rfl, by decide +kernel, by decide +kernel⟩
theorem b_replaced {K : PySem.W.Frag} {fd : FuncData} (F : Fn_replaced K fd) : Binds K fd ["part", "values"] [] := F.bindsN fun _ _ _ _ _ _ us hl => match us, hl with | [_, _], _ => rfl
theorem sc_put_terms : FnScope ["term", "table", "values", "nodes", "name", "kind", "many", "part", "_"] ["term", "table"] (defScope s_put_terms) := ⟨rfl, rfl, rfl, by decide +kernel, rfl, by decide +kernel, by decide +kernel⟩
theorem b_put_terms {K : PySem.W.Frag} {fd : FuncData} (F : Fn_put_terms K fd) : Binds K fd ["term", "table"] [] := F.bindsN fun _ _ _ _ _ _ us hl => match us, hl with | [_, _], _ => rfl
theorem sc_put_kinds : FnScope ["term", "table"] ["term", "table"] (defScope s_put_kinds) := ⟨rfl, rfl, rfl, by decide +kernel, rfl, by decide +kernel, by decide +kernel⟩
theorem b_put_kinds {K : PySem.W.Frag} {fd : FuncData} (F : Fn_put_kinds K fd) : Binds K fd ["term", "table"] [] := F.bindsN fun _ _ _ _ _ _ us hl => match us, hl with | [_, _], _ => rfl
theorem sc_law_pot : FnScope ["script", "k", "cell", "rest"] ["script", "k"] (defScope s_law_pot) := ⟨rfl, rfl, rfl, by decide +kernel, rfl, by decide +kernel, by decide +kernel⟩
theorem b_law_pot {K : PySem.W.Frag} {fd : FuncData} (F : Fn_law_pot K fd) : Binds K fd ["script", "k"] [] := F.bindsN fun _ _ _ _ _ _ us hl => match us, hl with | [_, _], _ => rfl
theorem sc_law_take : FnScope ["pot", "many", "digit", "mixed"] ["pot", "many"] (defScope s_law_take) := ⟨rfl, rfl, rfl, by decide +kernel, rfl, by decide +kernel, by decide +kernel⟩
theorem b_law_take {K : PySem.W.Frag} {fd : FuncData} (F : Fn_law_take K fd) : Binds K fd ["pot", "many"] [] := F.bindsN fun _ _ _ _ _ _ us hl => match us, hl with | [_, _], _ => rfl
theorem sc_law_mended : FnScope ["word"] ["word"] (defScope s_law_mended) := ⟨rfl, rfl, rfl, by decide +kernel, rfl, by decide +kernel, by decide +kernel⟩
theorem b_law_mended {K : PySem.W.Frag} {fd : FuncData} (F : Fn_law_mended K fd) : Binds K fd ["word"] [] := F.bindsN fun _ _ _ _ _ _ us hl => match us, hl with | [_], _ => rfl
theorem sc_law_name : FnScope ["pot", "letters", "size", "word", "k"] ["pot"] (defScope s_law_name) := ⟨rfl, rfl, rfl, by decide +kernel, rfl, by decide +kernel, by decide +kernel⟩
theorem b_law_name {K : PySem.W.Frag} {fd : FuncData} (F : Fn_law_name K fd) : Binds K fd ["pot"] [] := F.bindsN fun _ _ _ _ _ _ us hl => match us, hl with | [_], _ => rfl
theorem sc_law_near : FnScope ["pot", "word", "place", "letter"] ["pot", "word"] (defScope s_law_near) := ⟨rfl, rfl, rfl, by decide +kernel, rfl, by decide +kernel, by decide +kernel⟩
theorem b_law_near {K : PySem.W.Frag} {fd : FuncData} (F : Fn_law_near K fd) : Binds K fd ["pot", "word"] [] := F.bindsN fun _ _ _ _ _ _ us hl => match us, hl with | [_, _], _ => rfl
theorem sc_law_words : FnScope ["pot", "first", "second", "third", "fourth"] ["pot"] (defScope s_law_words) := ⟨rfl, rfl, rfl, by decide +kernel, rfl, by decide +kernel, by decide +kernel⟩
theorem b_law_words {K : PySem.W.Frag} {fd : FuncData} (F : Fn_law_words K fd) : Binds K fd ["pot"] [] := F.bindsN fun _ _ _ _ _ _ us hl => match us, hl with | [_], _ => rfl
theorem sc_law_same : FnScope ["actual", "due"] ["actual", "due"] (defScope s_law_same) := ⟨rfl, rfl, rfl, by decide +kernel, rfl, by decide +kernel, by decide +kernel⟩
theorem b_law_same {K : PySem.W.Frag} {fd : FuncData} (F : Fn_law_same K fd) : Binds K fd ["actual", "due"] [] := F.bindsN fun _ _ _ _ _ _ us hl => match us, hl with | [_, _], _ => rfl
theorem sc_law_pool : FnScope ["pot", "words", "leaves", "pool", "k", "one", "other", "way"] ["pot", "words"] (defScope s_law_pool) := ⟨rfl, rfl, rfl, by decide +kernel, rfl, by decide +kernel, by decide +kernel⟩
theorem b_law_pool {K : PySem.W.Frag} {fd : FuncData} (F : Fn_law_pool K fd) : Binds K fd ["pot", "words"] [] := F.bindsN fun _ _ _ _ _ _ us hl => match us, hl with | [_, _], _ => rfl
theorem sc_law_tip : FnScope ["pot", "kind", "around", "words", "fits", "way", "known", "k"] ["pot", "kind", "around", "words"] (defScope s_law_tip) := ⟨rfl, rfl, rfl, by decide +kernel, rfl, by decide +kernel, by decide +kernel⟩
theorem b_law_tip {K : PySem.W.Frag} {fd : FuncData} (F : Fn_law_tip K fd) : Binds K fd ["pot", "kind", "around", "words"] [] := F.bindsN fun _ _ _ _ _ _ us hl => match us, hl with | [_, _, _, _], _ => rfl
theorem sc_law_grown : FnScope ["pot", "kind", "words", "pool", "most", "code", "spent", "todo", "turn", "around", "way", "other"] ["pot", "kind", "words", "pool", "most"] (defScope s_law_grown) := ⟨rfl, rfl, rfl, by decide +kernel, rfl, by decide +kernel, by decide +kernel⟩
theorem b_law_grown {K : PySem.W.Frag} {fd : FuncData} (F : Fn_law_grown K fd) : Binds K fd ["pot", "kind", "words", "pool", "most"] [] := F.bindsN fun _ _ _ _ _ _ us hl => match us, hl with | [_, _, _, _, _], _ => rfl
theorem sc_law_levels : FnScope ["code", "todo", "levels", "row", "level"] ["code"] (defScope s_law_levels) := ⟨rfl, rfl, rfl, by decide +kernel, rfl, by decide +kernel, by decide +kernel⟩
theorem b_law_levels {K : PySem.W.Frag} {fd : FuncData} (F : Fn_law_levels K fd) : Binds K fd ["code"] [] := F.bindsN fun _ _ _ _ _ _ us hl => match us, hl with | [_], _ => rfl
theorem sc_law_built : FnScope ["code", "stack", "row", "function", "argument", "inner"] ["code"] (defScope s_law_built) := ⟨rfl, rfl, rfl, by decide +kernel, rfl, by decide +kernel, by decide +kernel⟩
theorem b_law_built {K : PySem.W.Frag} {fd : FuncData} (F : Fn_law_built K fd) : Binds K fd ["code"] [] := F.bindsN fun _ _ _ _ _ _ us hl => match us, hl with | [_], _ => rfl
theorem sc_law_once : FnScope ["code", "word", "found", "row"] ["code", "word"] (defScope s_law_once) := ⟨rfl, rfl, rfl, by decide +kernel, rfl, by decide +kernel, by decide +kernel⟩
theorem b_law_once {K : PySem.W.Frag} {fd : FuncData} (F : Fn_law_once K fd) : Binds K fd ["code", "word"] [] := F.bindsN fun _ _ _ _ _ _ us hl => match us, hl with | [_, _], _ => rfl
theorem sc_law_abstracted : FnScope ["code", "word", "kind", "levels", "made", "k"] ["code", "word", "kind"] (defScope s_law_abstracted) := ⟨rfl, rfl, rfl, by decide +kernel, rfl, by decide +kernel, by decide +kernel⟩
theorem b_law_abstracted {K : PySem.W.Frag} {fd : FuncData} (F : Fn_law_abstracted K fd) : Binds K fd ["code", "word", "kind"] [] := F.bindsN fun _ _ _ _ _ _ us hl => match us, hl with | [_, _, _], _ => rfl
theorem sc_law_instantiated : FnScope ["code", "filler", "levels", "made", "k"] ["code", "filler"] (defScope s_law_instantiated) := ⟨rfl, rfl, rfl, by decide +kernel, rfl, by decide +kernel, by decide +kernel⟩
theorem b_law_instantiated {K : PySem.W.Frag} {fd : FuncData} (F : Fn_law_instantiated K fd) : Binds K fd ["code", "filler"] [] := F.bindsN fun _ _ _ _ _ _ us hl => match us, hl with | [_, _], _ => rfl
theorem sc_law_put : FnScope ["code", "fills", "made", "row"] ["code", "fills"] (defScope s_law_put) := ⟨rfl, rfl, rfl, by decide +kernel, rfl, by decide +kernel, by decide +kernel⟩
theorem b_law_put {K : PySem.W.Frag} {fd : FuncData} (F : Fn_law_put K fd) : Binds K fd ["code", "fills"] [] := F.bindsN fun _ _ _ _ _ _ us hl => match us, hl with | [_, _], _ => rfl
theorem sc_law_kind_put : FnScope ["kind", "table", "flat", "todo", "turn", "part", "stack", "first", "other"] ["kind", "table"] (defScope s_law_kind_put) := ⟨rfl, rfl, rfl, by decide +kernel, rfl, by decide +kernel, by decide +kernel⟩
theorem b_law_kind_put {K : PySem.W.Frag} {fd : FuncData} (F : Fn_law_kind_put K fd) : Binds K fd ["kind", "table"] [] := F.bindsN fun _ _ _ _ _ _ us hl => match us, hl with | [_, _], _ => rfl
theorem sc_law_told_put : FnScope ["term", "table", "made", "e"] ["term", "table"] (defScope s_law_told_put) := ⟨rfl, rfl, rfl, by decide +kernel, rfl, by decide +kernel, by decide +kernel⟩
theorem b_law_told_put {K : PySem.W.Frag} {fd : FuncData} (F : Fn_law_told_put K fd) : Binds K fd ["term", "table"] [] := F.bindsN fun _ _ _ _ _ _ us hl => match us, hl with | [_, _], _ => rfl
theorem sc_law_told_instance : FnScope ["inner", "term", "made", "e"] ["inner", "term"] (defScope s_law_told_instance) := ⟨rfl, rfl, rfl, by decide +kernel, rfl, by decide +kernel, by decide +kernel⟩
theorem b_law_told_instance {K : PySem.W.Frag} {fd : FuncData} (F : Fn_law_told_instance K fd) : Binds K fd ["inner", "term"] [] := F.bindsN fun _ _ _ _ _ _ us hl => match us, hl with | [_, _], _ => rfl
theorem sc_law_right : FnScope ["told", "code"] ["told", "code"] (defScope s_law_right) := ⟨rfl, rfl, rfl, by decide +kernel, rfl, by decide +kernel, by decide +kernel⟩
theorem b_law_right {K : PySem.W.Frag} {fd : FuncData} (F : Fn_law_right K fd) : Binds K fd ["told", "code"] [] := F.bindsN fun _ _ _ _ _ _ us hl => match us, hl with | [_, _], _ => rfl
theorem sc_law_ask_builders : FnScope ["pot", "words", "pool", "kinds", "kind", "part", "head", "line", "due", "told", "k"] ["pot", "words", "pool"] (defScope s_law_ask_builders) := ⟨rfl, rfl, rfl, by decide +kernel, rfl, by decide +kernel, by decide +kernel⟩
theorem b_law_ask_builders {K : PySem.W.Frag} {fd : FuncData} (F : Fn_law_ask_builders K fd) : Binds K fd ["pot", "words", "pool"] [] := F.bindsN fun _ _ _ _ _ _ us hl => match us, hl with | [_, _, _], _ => rfl
theorem sc_law_new : FnScope ["words", "number", "k"] ["words"] (defScope s_law_new) := ⟨rfl, rfl, rfl, by decide +kernel, rfl, by decide +kernel, by decide +kernel⟩
theorem b_law_new {K : PySem.W.Frag} {fd : FuncData} (F : Fn_law_new K fd) : Binds K fd ["words"] [] := F.bindsN fun _ _ _ _ _ _ us hl => match us, hl with | [_], _ => rfl
theorem sc_law_ask_abstract : FnScope ["code", "word", "kind", "filler", "new", "term", "flat", "inner", "opened"] ["code", "word", "kind", "filler", "new"] (defScope s_law_ask_abstract) := ⟨rfl, rfl, rfl, by decide +kernel, rfl, by decide +kernel, by decide +kernel⟩
theorem b_law_ask_abstract {K : PySem.W.Frag} {fd : FuncData} (F : Fn_law_ask_abstract K fd) : Binds K fd ["code", "word", "kind", "filler", "new"] [] := F.bindsN fun _ _ _ _ _ _ us hl => match us, hl with | [_, _, _, _, _], _ => rfl
theorem sc_law_ask_put : FnScope ["code", "fills", "table", "word", "given", "told"] ["code", "fills"] (defScope s_law_ask_put) := ⟨rfl, rfl, rfl, by decide +kernel, rfl, by decide +kernel, by decide +kernel⟩
theorem b_law_ask_put {K : PySem.W.Frag} {fd : FuncData} (F : Fn_law_ask_put K fd) : Binds K fd ["code", "fills"] [] := F.bindsN fun _ _ _ _ _ _ us hl => match us, hl with | [_, _], _ => rfl
theorem sc_law_ask_kinds : FnScope ["pot", "words", "pool", "code", "table", "word", "made", "row", "given", "told"] ["pot", "words", "pool", "code"] (defScope s_law_ask_kinds) := ⟨rfl, rfl, rfl, by decide +kernel, rfl, by decide +kernel, by decide +kernel⟩
theorem b_law_ask_kinds {K : PySem.W.Frag} {fd : FuncData} (F : Fn_law_ask_kinds K fd) : Binds K fd ["pot", "words", "pool", "code"] [] := F.bindsN fun _ _ _ _ _ _ us hl => match us, hl with | [_, _, _, _], _ => rfl
theorem sc_law_fills : FnScope ["pot", "words", "pool", "code", "fills", "word", "way", "kind", "near", "row"] ["pot", "words", "pool", "code"] (defScope s_law_fills) := ⟨rfl, rfl, rfl, by decide +kernel, rfl, by decide +kernel, by decide +kernel⟩
theorem b_law_fills {K : PySem.W.Frag} {fd : FuncData} (F : Fn_law_fills K fd) : Binds K fd ["pot", "words", "pool", "code"] [] := F.bindsN fun _ _ _ _ _ _ us hl => match us, hl with | [_, _, _, _], _ => rfl
theorem sc_law_general : FnScope ["pot", "words", "pool", "most", "code", "term", "word", "kind", "known", "filler", "told"] ["pot", "words", "pool"] (defScope s_law_general) := ⟨rfl, rfl, rfl, by decide +kernel, rfl, by decide +kernel, by decide +kernel⟩
theorem b_law_general {K : PySem.W.Frag} {fd : FuncData} (F : Fn_law_general K fd) : Binds K fd ["pot", "words", "pool"] [] := F.bindsN fun _ _ _ _ _ _ us hl => match us, hl with | [_, _, _], _ => rfl
theorem sc_law_wide : FnScope ["pot", "count", "marked", "word", "plain", "base", "many", "rest", "offset", "k", "line", "pair", "turn", "joined", "code"] ["pot", "count", "marked", "word", "plain", "base"] (defScope s_law_wide) := ⟨rfl, rfl, rfl, by decide +kernel, rfl, by decide +kernel, by decide +kernel⟩
theorem b_law_wide {K : PySem.W.Frag} {fd : FuncData} (F : Fn_law_wide K fd) : Binds K fd ["pot", "count", "marked", "word", "plain", "base"] [] := F.bindsN fun _ _ _ _ _ _ us hl => match us, hl with | [_, _, _, _, _, _], _ => rfl
theorem sc_law_ask_wide : FnScope ["pot", "words", "base", "word", "marked", "weight", "count", "code", "filler"] ["pot", "words"] (defScope s_law_ask_wide) := ⟨rfl, rfl, rfl, by decide +kernel, rfl, by decide +kernel, by decide +kernel⟩
theorem b_law_ask_wide {K : PySem.W.Frag} {fd : FuncData} (F : Fn_law_ask_wide K fd) : Binds K fd ["pot", "words"] [] := F.bindsN fun _ _ _ _ _ _ us hl => match us, hl with | [_, _], _ => rfl
theorem sc_law_ask_deep : FnScope ["pot", "words", "base", "hop", "code", "filler"] ["pot", "words"] (defScope s_law_ask_deep) := ⟨rfl, rfl, rfl, by decide +kernel, rfl, by decide +kernel, by decide +kernel⟩
theorem b_law_ask_deep {K : PySem.W.Frag} {fd : FuncData} (F : Fn_law_ask_deep K fd) : Binds K fd ["pot", "words"] [] := F.bindsN fun _ _ _ _ _ _ us hl => match us, hl with | [_, _], _ => rfl
theorem sc_law : FnScope ["script", "k", "pot", "words", "pool", "way"] ["script"] (defScope s_law) := ⟨rfl, rfl, rfl, by decide +kernel, rfl, by decide +kernel, by decide +kernel⟩
theorem b_law {K : PySem.W.Frag} {fd : FuncData} (F : Fn_law K fd) : Binds K fd ["script"] [] := F.bindsN fun _ _ _ _ _ _ us hl => match us, hl with | [_], _ => rfl
end K01
/-! Data of tuples, texts and ints in the heap; lists of them; steps over these. -/
namespace L2
open PySem PySem.Spec PyProof.Rows SX TL
mutual
/-- v stands for d: tuples are the program's own, they never change -/
inductive TD (H : Hp) : V → PyData → Prop
  | non : TD H .non .none
  | bl (b : Bool) : TD H (.bl b) (.bool b)
  | int (i : Int) : TD H (.int i) (.int i)
  | str (x : Str) : TD H (.str x) (.str x)
  | tup {a : Addr} {xs : List V} {ds : List PyData} : H a = some (.tup xs) → TDs H xs ds → TD H (.ref a) (.tuple ds)
inductive TDs (H : Hp) : List V → List PyData → Prop
  | nil : TDs H [] []
  | cons {v : V} {vs : List V} {d : PyData} {ds : List PyData} : TD H v d → TDs H vs ds → TDs H (v :: vs) (d :: ds)
end
mutual
theorem TD.dp {K : PySem.W.Frag} {H : Hp} : ∀ {v : V} {d : PyData}, TD H v d → Dp K H v d
  | _, _, .non => .non
  | _, _, .bl b => .bl b
  | _, _, .int i => .int i
  | _, _, .str x => .str x
  | _, _, .tup h k => .tup (SqT.of h) k.dp
theorem TDs.dp {K : PySem.W.Frag} {H : Hp} : ∀ {v : List V} {d : List PyData}, TDs H v d → DpAll K H v d
  | _, _, .nil => .nil
  | _, _, .cons h k => .cons h.dp k.dp
end
/-- tuples stand -/
def Tm (H H' : Hp) : Prop := ∀ b xs, H b = some (.tup xs) → H' b = some (.tup xs)
mutual
theorem TD.tm {H H' : Hp} (t : Tm H H') : ∀ {v : V} {d : PyData}, TD H v d → TD H' v d
  | _, _, .non => .non
  | _, _, .bl b => .bl b
  | _, _, .int i => .int i
  | _, _, .str x => .str x
  | _, _, .tup h k => .tup (t _ _ h) (k.tm t)
theorem TDs.tm {H H' : Hp} (t : Tm H H') : ∀ {v : List V} {d : List PyData}, TDs H v d → TDs H' v d
  | _, _, .nil => .nil
  | _, _, .cons h k => .cons (h.tm t) (k.tm t)
end
theorem Tm.refl (H : Hp) : Tm H H := fun _ _ h => h
theorem Tm.tr {H H1 H2 : Hp} (h : Tm H H1) (k : Tm H1 H2) : Tm H H2 := fun b xs e => k b xs (h b xs e)
theorem Tm.same {H H' : Hp} (s : Same H H') : Tm H H' := fun b xs e => s b _ e
theorem Tm.ex {H H' : Hp} {p : Addr} {xs : List V} (hp : H p = some (.lst xs)) (x : Ex p H H') : Tm H H' := fun b ys e => by
  rw [x b (ne_of e hp (by intro z; cases z))]; exact e
/-- all but a stands -/
def Kb (a : Addr) (H H' : Hp) : Prop := ∀ b o, b ≠ a → H b = some o → H' b = some o
theorem Kb.refl (a : Addr) (H : Hp) : Kb a H H := fun _ _ _ h => h
theorem Kb.tr {a : Addr} {H H1 H2 : Hp} (h : Kb a H H1) (k : Kb a H1 H2) : Kb a H H2 := fun b o n e => k b o n (h b o n e)
theorem Kb.same {a : Addr} {H H' : Hp} (s : Same H H') : Kb a H H' := fun b o _ e => s b o e
theorem Kb.then {a : Addr} {H H1 H2 : Hp} (h : Kb a H H1) (s : Same H1 H2) : Kb a H H2 := h.tr (Kb.same s)
theorem Kb.ex {a p : Addr} {H H1 H2 : Hp} (k : Kb a H H1) (hp : H p = none) (x : Ex p H1 H2) : Kb a H H2 := fun b o n e => by
  rw [x b (ne_of_none e hp)]; exact k b o n e
theorem Kb.tm {a : Addr} {H H' : Hp} {xs : List V} (ha : H a = some (.lst xs)) (k : Kb a H H') : Tm H H' := fun b ys e => k b _ (ne_of e ha (by intro z; cases z)) e
theorem Same.ex {p : Addr} {H H1 H2 : Hp} (k : Same H H1) (hp : H p = none) (x : Ex p H1 H2) : Same H H2 := fun b o e => by
  rw [x b (ne_of_none e hp)]; exact k b o e
theorem Same.kb {a : Addr} {H H1 H2 : Hp} (s : Same H H1) (ha : H a = none) (k : Kb a H1 H2) : Same H H2 := fun b o e => k b o (ne_of_none e ha) (s b o e)
theorem Ex.refl (p : Addr) (H : Hp) : Ex p H H := fun _ _ => rfl
/-! inversion -/
section
variable {H : Hp} {v x y z : V} {d e f : PyData} {ds es : List PyData} {xs ys : List V}
theorem TD.tuple (h : TD H v (.tuple ds)) : ∃ a xs, v = .ref a ∧ H a = some (.tup xs) ∧ TDs H xs ds := by
  cases h with
  | tup h k => exact ⟨_, _, rfl, h, k⟩
theorem TD.txt {s : Str} (h : TD H v (.str s)) : v = .str s := by cases h; rfl
theorem TD.num {i : Int} (h : TD H v (.int i)) : v = .int i := by cases h; rfl
theorem TD.none_ (h : TD H v .none) : v = .non := by cases h; rfl
theorem TDs.len (h : TDs H xs ds) : xs.length = ds.length := by
  induction ds generalizing xs with
  | nil => cases h; rfl
  | cons d ds ih => cases h with | cons a b => rw [List.length_cons, List.length_cons, ih b]
theorem TDs.nil_ (h : TDs H xs []) : xs = [] := by cases h; rfl
theorem TDs.cons_ (h : TDs H xs (d :: ds)) : ∃ x ys, xs = x :: ys ∧ TD H x d ∧ TDs H ys ds := by cases h with | cons a b => exact ⟨_, _, rfl, a, b⟩
theorem TDs.one (h : TDs H xs [d]) : ∃ x, xs = [x] ∧ TD H x d := by
  obtain ⟨x, ys, rfl, a, b⟩ := h.cons_; cases b; exact ⟨x, rfl, a⟩
theorem TDs.two (h : TDs H xs [d, e]) : ∃ x y, xs = [x, y] ∧ TD H x d ∧ TD H y e := by
  obtain ⟨x, ys, rfl, a, b⟩ := h.cons_; obtain ⟨y, rfl, c⟩ := b.one; exact ⟨x, y, rfl, a, c⟩
theorem TDs.three (h : TDs H xs [d, e, f]) : ∃ x y z, xs = [x, y, z] ∧ TD H x d ∧ TD H y e ∧ TD H z f := by
  obtain ⟨x, ys, rfl, a, b⟩ := h.cons_; obtain ⟨y, z, rfl, b', c⟩ := b.two; exact ⟨x, y, z, rfl, a, b', c⟩
theorem TDs.get {i : Nat} (h : TDs H xs ds) (e : ds[i]? = some d) : ∃ x, xs[i]? = some x ∧ TD H x d := by
  induction ds generalizing xs i with
  | nil => cases e
  | cons d' ds ih =>
    obtain ⟨x, ys, rfl, a, b⟩ := h.cons_
    cases i with
    | zero => cases e; exact ⟨x, rfl, a⟩
    | succ i => exact ih (xs := ys) b e
theorem TDs.get' {i : Nat} (h : TDs H xs ds) (e : xs[i]? = some x) : ∃ d, ds[i]? = some d ∧ TD H x d := by
  have hi := (List.getElem?_eq_some_iff.mp e).1
  rw [h.len] at hi
  obtain ⟨y, e', t⟩ := h.get (List.getElem?_eq_getElem hi)
  rw [e] at e'; cases e'
  exact ⟨_, List.getElem?_eq_getElem hi, t⟩
theorem TDs.append (h : TDs H xs ds) (k : TDs H ys es) : TDs H (xs ++ ys) (ds ++ es) := by
  induction ds generalizing xs with
  | nil => cases h; exact k
  | cons d ds ih => cases h with | cons a b => exact .cons a (ih b)
theorem TDs.take (h : TDs H xs ds) (n : Nat) : TDs H (xs.take n) (ds.take n) := by
  induction n generalizing xs ds with
  | zero => exact .nil
  | succ n ih =>
    cases ds with
    | nil => cases h; exact .nil
    | cons d ds => cases h with | cons a b => exact .cons a (ih b)
theorem TDs.drop (h : TDs H xs ds) (n : Nat) : TDs H (xs.drop n) (ds.drop n) := by
  induction n generalizing xs ds with
  | zero => exact h
  | succ n ih =>
    cases ds with
    | nil => cases h; exact .nil
    | cons d ds => cases h with | cons a b => exact ih b
theorem TDs.snoc (h : TDs H xs ds) (k : TD H v d) : TDs H (xs ++ [v]) (ds ++ [d]) := h.append (.cons k .nil)
theorem TDs.rev (h : TDs H xs ds) : TDs H xs.reverse ds.reverse := by
  induction ds generalizing xs with
  | nil => cases h; exact .nil
  | cons d ds ih => cases h with | cons a b => rw [List.reverse_cons, List.reverse_cons]; exact (ih b).snoc a
theorem TDs.unsnoc (h : TDs H xs (ds ++ [d])) : ∃ ys x, xs = ys ++ [x] ∧ TDs H ys ds ∧ TD H x d := by
  induction ds generalizing xs with
  | nil => obtain ⟨x, rfl, t⟩ := TDs.one h; exact ⟨[], x, rfl, .nil, t⟩
  | cons d' ds ih =>
    obtain ⟨x, ys, rfl, a, b⟩ := TDs.cons_ h
    obtain ⟨zs, y, rfl, c, t⟩ := ih b
    exact ⟨x :: zs, y, rfl, .cons a c, t⟩
theorem TDs.rep (n : Nat) (h : TDs H xs ds) : TDs H (List.replicate n xs).flatten (List.replicate n ds).flatten := by
  induction n with
  | zero => exact .nil
  | succ n ih => rw [List.replicate_succ, List.replicate_succ, List.flatten_cons, List.flatten_cons]; exact h.append ih
theorem TDs.of {α : Type} {g : α → PyData} {l : List α} (h : ∀ (i : Nat) (d : PyData), (l.map g)[i]? = some d → ∃ x : V, xs[i]? = some x ∧ TD H x d) (hl : xs.length = l.length) : TDs H xs (l.map g) := by
  induction l generalizing xs with
  | nil =>
    have : xs = [] := List.length_eq_zero_iff.mp hl
    subst this; exact .nil
  | cons a l ih =>
    cases xs with
    | nil => cases hl
    | cons x xs =>
      obtain ⟨y, e, t⟩ := h 0 _ rfl
      cases e
      exact .cons t (ih (fun i d e => h (i + 1) d e) (by simpa using hl))
end
/-- a list of data at p -/
def DL (H : Hp) (p : Addr) (ds : List PyData) : Prop := ∃ xs, H p = some (.lst xs) ∧ TDs H xs ds
section
variable {H H' : Hp} {p : Addr} {ds es : List PyData}
theorem DL.lst (h : DL H p ds) : ∃ xs, H p = some (.lst xs) := let ⟨xs, e, _⟩ := h; ⟨xs, e⟩
theorem DL.same (h : DL H p ds) (s : Same H H') : DL H' p ds := let ⟨xs, e, t⟩ := h; ⟨xs, s _ _ e, t.tm (Tm.same s)⟩
theorem DL.kb {a : Addr} {xs : List V} (h : DL H p ds) (k : Kb a H H') (n : p ≠ a) (ha : H a = some (.lst xs)) : DL H' p ds := let ⟨xs, e, t⟩ := h; ⟨xs, k _ _ n e, t.tm (k.tm ha)⟩
theorem DL.ex {q : Addr} (h : DL H p ds) (x : Ex q H H') (n : p ≠ q) {xs : List V} (hq : H q = some (.lst xs)) : DL H' p ds := let ⟨xs, e, t⟩ := h; ⟨xs, by rw [x p n]; exact e, t.tm (Tm.ex hq x)⟩
theorem DL.tm_ex (h : DL H p ds) (x : Ex p H H') : Tm H H' := let ⟨_, e⟩ := h.lst; Tm.ex e x
end
section
variable {σ : St} {H : Hp} {v x y : V} {Q : VK} {K : PySem.W.Frag} {tA : TA} {te : TE} {p q : Addr} {d e : PyData} {ds es : List PyData} {xs ys : List V}
/-! steps -/
theorem t_ix {n : Nat} (h : TD H v (.tuple ds)) (e : ds[n]? = some d) (k : ∀ x, TD H x d → Q x H) : rIxT K v (.int (n : Int)) H Q := by
  obtain ⟨a, xs, rfl, ha, t⟩ := h.tuple
  obtain ⟨x, ex, tx⟩ := t.get e
  exact w_ixU (SqT.of ha) ex (k x tx)
theorem t_ixS {n : Nat} {s : Str} (h : TD H v (.tuple ds)) (e : ds[n]? = some (.str s)) (k : Q (.str s) H) : rIxT K v (.int (n : Int)) H Q := t_ix h e fun x tx => by rw [tx.txt]; exact k
theorem t_ixI {n : Nat} {i : Int} (h : TD H v (.tuple ds)) (e : ds[n]? = some (.int i)) (k : Q (.int i) H) : rIxT K v (.int (n : Int)) H Q := t_ix h e fun x tx => by rw [tx.num]; exact k
theorem l_ix {n : Nat} (h : DL H p ds) (e : ds[n]? = some d) (k : ∀ x, TD H x d → Q x H) : rIxL K (.ref p) (.int (n : Int)) H Q := by
  obtain ⟨xs, hp, t⟩ := h
  obtain ⟨x, ex, tx⟩ := t.get e
  exact w_ixL (SqL.of hp) ex (k x tx)
theorem l_len (h : DL H p ds) (k : Q (.int (ds.length : Int)) H) : rLenQ K [.ref p] H Q := by
  obtain ⟨xs, hp, t⟩ := h
  refine w_lenL (SqL.of hp) ?_
  rw [t.len]; exact k
theorem t_len (h : TD H v (.tuple ds)) (k : Q (.int (ds.length : Int)) H) : rLenQ K [v] H Q := by
  obtain ⟨a, xs, rfl, ha, t⟩ := h.tuple
  refine w_lenU (SqT.of ha) ?_
  rw [t.len]; exact k
theorem l_ty {F : Prop} (h : DL H p ds) (k : F) : tyV K "list" (.ref p) H ∧ F := let ⟨_, e, _⟩ := h; n_lTy e k
theorem l_app (h : DL H p ds) (hv : TD H v d) (k : ∀ H', DL H' p (ds ++ [d]) → Ex p H H' → Q .non H') (hz : ds.length ≤ 100000 := by omega) : rAppend (.ref p) [v] H Q := by
  obtain ⟨xs, hp, t⟩ := h
  refine n_app hp (by rw [t.len]; exact hz) (fun H' e x => ?_)
  have tm := Tm.ex hp x
  exact k H' ⟨_, e, (t.tm tm).snoc (hv.tm tm)⟩ x
theorem l_pop (h : DL H p (ds ++ [d])) (k : ∀ x H', TD H' x d → DL H' p ds → Ex p H H' → Q x H') : rPop (.ref p) [] H Q := by
  obtain ⟨xs, hp, t⟩ := h
  obtain ⟨ys, x, rfl, t1, t2⟩ := t.unsnoc
  have ex : Ex p H (upd H p (.lst ys)) := fun b hb => upd_ne hb
  have tm := Tm.ex hp ex
  refine ⟨p, _, x, rfl, rfl, hp, ?_, ?_⟩
  · rw [List.length_append, List.length_singleton, Nat.add_sub_cancel]
    exact List.getElem?_concat_length
  · rw [List.dropLast_concat]
    exact k x _ (t2.tm tm) ⟨ys, upd_same, t1.tm tm⟩ ex
theorem t_new (t : TDs H xs ds) (k : ∀ p H', H p = none → Same H H' → TD H' (.ref p) (.tuple ds) → Q (.ref p) H') (hz : xs.length ≤ 4096 := by exact Nat.le_of_ble_eq_true rfl) : NewT xs H Q :=
  n_T (fun p H' hp s e => k p H' hp s (.tup e (t.tm (Tm.same s)))) hz
theorem l_new (t : TDs H xs ds) (k : ∀ p H', H p = none → Same H H' → DL H' p ds → Q (.ref p) H') (hz : xs.length ≤ 4096 := by exact Nat.le_of_ble_eq_true rfl) : NewL xs H Q :=
  n_L (fun p H' hp s e => k p H' hp s ⟨xs, e, t.tm (Tm.same s)⟩) hz
theorem l_cat (h1 : DL H p ds) (h2 : DL H q es) (k : ∀ t H', H t = none → Same H H' → DL H' t (ds ++ es) → Q (.ref t) H') (hz : ds.length + es.length ≤ 100000 := by omega) : rCat (.ref p) (.ref q) H Q := by
  obtain ⟨xs, hp, t1⟩ := h1
  obtain ⟨ys, hq, t2⟩ := h2
  exact n_cat hp hq (by rw [t1.len, t2.len]; exact hz) fun t H' ht s e => k t H' ht s ⟨_, e, (t1.append t2).tm (Tm.same s)⟩
theorem l_rep {n : Nat} (h : DL H p ds) (k : ∀ t H', H t = none → Same H H' → DL H' t (List.replicate n ds).flatten → Q (.ref t) H') (hz : ds.length * n ≤ 100000) (hn : n ≤ 100000 := by omega) : rRep (.ref p) (.int (n : Int)) H Q := by
  obtain ⟨xs, hp, t1⟩ := h
  exact n_rep hp (by rw [t1.len]; exact hz) hn fun t H' ht s e => k t H' ht s ⟨_, e, (t1.rep n).tm (Tm.same s)⟩
theorem l_to {b : Nat} (h : DL H p ds) (k : ∀ t H', H t = none → Same H H' → DL H' t (ds.take b) → Q (.ref t) H') : rSlL K (.ref p) none (some (b : Int)) H Q := by
  obtain ⟨xs, hp, t1⟩ := h
  exact n_to (SqL.of hp) fun t H' ht s e => k t H' ht s ⟨_, e, (t1.take b).tm (Tm.same s)⟩
theorem l_from {b : Nat} (h : DL H p ds) (k : ∀ t H', H t = none → Same H H' → DL H' t (ds.drop b) → Q (.ref t) H') : rSlL K (.ref p) (some (b : Int)) none H Q := by
  obtain ⟨xs, hp, t1⟩ := h
  exact n_from (SqL.of hp) fun t H' ht s e => k t H' ht s ⟨_, e, (t1.drop b).tm (Tm.same s)⟩
theorem w_revL (h : te σ H fun x H1 => ∃ a xs, x = .ref a ∧ SqL K H1 a xs ∧ ∀ p, H1 p = none → Q (.ref p) (upd H1 p (.lst xs.reverse))) : tRevL K te σ H Q := h
theorem l_rev (h : DL H p ds) (k : ∀ t H', H t = none → Same H H' → DL H' t ds.reverse → Q (.ref t) H') : ∃ a xs, V.ref p = .ref a ∧ SqL K H a xs ∧ ∀ p, H p = none → Q (.ref p) (upd H p (.lst xs.reverse)) := by
  obtain ⟨xs, hp, t1⟩ := h
  exact ⟨p, xs, rfl, SqL.of hp, fun t ht => k t _ ht (same_upd ht) ⟨_, upd_same, t1.rev.tm (Tm.same (same_upd ht))⟩⟩
/-- tuples joined -/
theorem t_cat (h1 : TD H x (.tuple ds)) (h2 : TD H y (.tuple es)) (hn : ds ≠ []) (k : ∀ z H', Same H H' → TD H' z (.tuple (ds ++ es)) → Q z H') (hz : ds.length + es.length ≤ 100000 := by omega) : rCatT K x y H Q := by
  obtain ⟨a, xs, rfl, ha, t1⟩ := h1.tuple
  obtain ⟨b, ys, rfl, hb, t2⟩ := h2.tuple
  have l1 := t1.len
  have l2 := t2.len
  refine ⟨a, b, xs, ys, rfl, rfl, SqT.of ha, SqT.of hb, fun z => ?_, Nat.le_trans (by omega) (show 100000 ≤ sizeLine by decide), fun z => ?_, fun z p hp => ?_⟩
  · rw [z] at l1
    exact hn (List.length_eq_zero_iff.mp l1.symm)
  · rw [z] at l2
    have : es = [] := List.length_eq_zero_iff.mp l2.symm
    subst this
    refine k _ H (Same.refl H) ?_
    rw [List.append_nil]; exact .tup ha t1
  · have s := same_upd (o := .tup (xs ++ ys)) hp
    exact k _ _ s (.tup upd_same ((t1.append t2).tm (Tm.same s)))
/-! equality -/
def Sz (n : Nat) (d : PyData) : Prop := d.canLay0 = true ∧ d.depth ≤ n
theorem d_eq (hx : TD H x d) (hy : TD H y e) (sd : Sz 180 d) (se : Sz 180 e) (k : Q (.bl (PyData.eqv d e)) H) : rEqN K x y H Q := ⟨d, e, ⟨hx.dp, sd⟩, ⟨hy.dp, se⟩, k⟩
theorem d_ne (hx : TD H x d) (hy : TD H y e) (sd : Sz 180 d) (se : Sz 180 e) (k : Q (.bl (!PyData.eqv d e)) H) : rNeN K x y H Q := ⟨d, e, ⟨hx.dp, sd⟩, ⟨hy.dp, se⟩, k⟩
theorem d_inL (hx : TD H x d) (hy : DL H p ds) (sd : Sz 180 d) (se : Sz 180 (.list ds)) (k : Q (.bl (ds.any fun z => PyData.eqv z d)) H) : rInN K x (.ref p) H Q := by
  obtain ⟨xs, hp, t⟩ := hy
  exact ⟨d, ds, ⟨hx.dp, sd⟩, ⟨.lst (SqL.of hp) t.dp, se⟩, k⟩
theorem d_ninL (hx : TD H x d) (hy : DL H p ds) (sd : Sz 180 d) (se : Sz 180 (.list ds)) (k : Q (.bl (!ds.any fun z => PyData.eqv z d)) H) : rNotInN K x (.ref p) H Q := by
  obtain ⟨xs, hp, t⟩ := hy
  exact ⟨d, ds, ⟨hx.dp, sd⟩, ⟨.lst (SqL.of hp) t.dp, se⟩, k⟩
theorem d_repr (hx : TD H x (.tuple ds)) (sd : Sz 180 (.tuple ds)) (h1 : (PyData.tuple ds).showable = true) (h2 : (PyData.tuple ds).shown.length ≤ 16777216) (k : Q (.str (PyData.tuple ds).shown) H) : rRepr K [x] H Q := by
  obtain ⟨a, xs, rfl, ha, t⟩ := hx.tuple
  exact ⟨a, _, rfl, ⟨(TD.tup ha t).dp, sd⟩, h1, by rw [sizeLine_eq]; exact h2, k⟩
/-! isinstance -/
theorem TD.ty_tup (h : TD H v (.tuple ds)) : TyX K H v (.type "tuple") := by
  obtain ⟨a, xs, rfl, ha, _⟩ := h.tuple
  exact .base (.tup ha)
def tyOf : PyData → String
  | .none => "NoneType" | .bool _ => "bool" | .int _ => "int" | .str _ => "str" | .list _ => "list" | .tuple _ => "tuple" | .dict _ => "dict"
theorem TD.ty (h : TD H v d) : TyX K H v (.type (tyOf d)) := by
  cases h with
  | non => exact .base .non
  | bl b => exact .base (.bl b)
  | int i => exact .base (.int i)
  | str s => exact .base (.str s)
  | tup h k => exact .base (.tup h)
end
open PySem.AutoSeq1 in
theorem extendT_meets (l : Addr) (items : Array Value) (n : Nat) (b : Addr) (items2 : Array Value) (n2 : Nat) (dd : Option Addr) (sl : Array (Option Value)) (h0 : ¬ (!items.isEmpty && Builtin.List.listTooLong (items.size + items2.size)) = true) (h1 : items.size ≤ sizeLine) (h2 : items.size + items2.size ≤ sizeLine + 1) :
    Meets (Builtin.«list.extend» ⟨[.ref l, .ref b], []⟩) (fun _ R s => s.heap.get? l = some { cls := .type "list", dict := none, data := .seq items n, slots := #[] } ∧ s.heap.get? b = some { cls := .type "tuple", dict := dd, data := .seq items2 n2, slots := sl } ∧ R (.ok (.ret Value.none)) { s with heap := s.heap.update l (Obj.mapSeq fun x => x ++ items2), toks := s.toks }) :=
  .of_wp fun prog w A R s h => by
    obtain ⟨hp, g, d, tk, os⟩ := s
    obtain ⟨hl, hb, h⟩ := h
    have f1 := AutoSeq1.idx_int
    have f2 := AutoSeq1.sub_tuple_tuple
    have f3 := AutoSeq1.sub_list_list
    have f4 := AutoSeq1.sub_tuple_list
    have f5 := AutoSeq1.sub_list_tuple
    have hz' : (items ++ items2).size ≤ sizeLine + 1 := by rw [Array.size_append]; exact h2
    wp_walk using (wpAny_updateSeq hl rfl (hz := h1) (_hz' := hz')), wpAny_loadPart' hl, wpAny_loadPart' hb
    exact ⟨_, rfl, h⟩
/-- extend by a tuple -/
def rExtendT : V → List V → Hp → VK → Prop := fun x vs H Q => ∃ l b xs zs, x = .ref l ∧ vs = [.ref b] ∧ H l = some (.lst xs) ∧ H b = some (.tup zs) ∧ xs.length + zs.length ≤ sizeLine ∧ Q .non (upd H l (.lst (xs ++ zs)))
theorem mt_extendT {X : Cx} : MtR X "list.extend" rExtendT := by
  intro pins s σ H x vs v us Q I rx rv h
  obtain ⟨l, b, xs, zs, rfl, rfl, hH, hB, hz, q⟩ := h
  cases rx
  obtain ⟨u, rfl, ru⟩ := rv.one
  cases ru
  obtain ⟨z, its, n, r, hl, e⟩ := I.lstM hH
  obtain ⟨its2, r2, pT, hl2⟩ := I.tuple (SqT.of hB)
  obtain ⟨⟨cls, dd, data, sls⟩, ho, hc, n2, hdt⟩ := pT
  dsimp only at hc hdt
  subst hc hdt
  have r2l := r2.length
  have hsz : its.toArray.size + its2.toArray.size ≤ sizeLine := by rw [List.size_toArray, List.size_toArray]; omega
  have hlong : ¬ (!its.toArray.isEmpty && Builtin.List.listTooLong (its.toArray.size + its2.toArray.size)) = true := by
    rw [notLongL hsz, Bool.and_false]
    exact Bool.false_ne_true
  refine call_meets F.slot_list_extend ⟨_, e, rfl⟩ F.entry_list_extend (F.args_list_extend_2 _ _)
    (extendT_meets l its.toArray n b its2.toArray n2 dd sls hlong (by rw [List.size_toArray]; omega) (by omega)) ⟨e, ho, ?_⟩
  refine ⟨.non, _, I.lset (its' := its ++ its2) hH e (by simp) (r.append r2) ?_, rfl, q⟩
  rw [List.length_append]
  omega
section
variable {H : Hp} {v : V} {Q : VK} {p : Addr} {ds es : List PyData}
theorem l_extT (h : DL H p ds) (hv : TD H v (.tuple es)) (k : ∀ H', DL H' p (ds ++ es) → Ex p H H' → Q .non H') (hz : ds.length + es.length ≤ 100000 := by omega) : rExtendT (.ref p) [v] H Q := by
  obtain ⟨xs, hp, t⟩ := h
  obtain ⟨b, ys, rfl, hb, u⟩ := hv.tuple
  have ex : Ex p H (upd H p (.lst (xs ++ ys))) := fun b hb => upd_ne hb
  have tm := Tm.ex hp ex
  exact ⟨p, b, xs, ys, rfl, rfl, hp, hb, Nat.le_trans (by rw [t.len, u.len]; exact hz) (show 100000 ≤ sizeLine by decide), k _ ⟨_, upd_same, (t.append u).tm tm⟩ ex⟩
theorem l_extL {q : Addr} (h : DL H p ds) (hv : DL H q es) (k : ∀ H', DL H' p (ds ++ es) → Ex p H H' → Q .non H') (hz : ds.length + es.length ≤ 100000 := by omega) : rExtend (.ref p) [.ref q] H Q := by
  obtain ⟨xs, hp, t⟩ := h
  obtain ⟨ys, hb, u⟩ := hv
  have ex : Ex p H (upd H p (.lst (xs ++ ys))) := fun b hb => upd_ne hb
  have tm := Tm.ex hp ex
  exact ⟨p, q, xs, ys, rfl, rfl, hp, hb, Nat.le_trans (by rw [t.len, u.len]; exact hz) (show 100000 ≤ sizeLine by decide), k _ ⟨_, upd_same, (t.append u).tm tm⟩ ex⟩
end
end L2

/-! The plain law of k02: kinds, rows, trees. -/
namespace K02
open PySem L2 TL SX
abbrev wNAMED : List Nat := [110,97,109,101,100]
abbrev wFREE : List Nat := [102,114,101,101]
abbrev wTO : List Nat := [116,111]
abbrev wAPP : List Nat := [97,112,112]
abbrev wLAM : List Nat := [108,97,109]
abbrev wVAR : List Nat := [118,97,114]
abbrev wCONST : List Nat := [99,111,110,115,116]
abbrev wBOUND : List Nat := [98,111,117,110,100]
abbrev wODD : List Nat := [111,100,100]
abbrev wBOOL : List Nat := [98,111,111,108]
def LET : List Nat := [97,98,99,100,101,102,103,104,105,106,107,108,109,110,111,112,113,114,115,116,117,118,119,120,121,122]
def DIG : List Nat := [48,49,50,51,52,53,54,55,56,57,95]
def WS : List Nat := LET ++ DIG
def RES : List (List Nat) := [[97,108,108],[115,111,109,101],[108,97,109],[116,114,117,101],[102,97,108,115,101],[98,111,111,108]]
def isName (l : List Nat) : Bool := decide ((1 ≤ l.length ∧ l.length ≤ 16) ∧ l ∉ RES ∧ (∃ c, l[0]? = some c ∧ c ∈ LET) ∧ ∀ c ∈ l, c ∈ WS)
theorem name_cok {l : List Nat} (h : isName l = true) : Cok l ∧ l.length ≤ 16 := by
  have h := of_decide_eq_true h
  refine ⟨fun c hc => ?_, h.1.2⟩
  have h1 : c ∈ WS := h.2.2.2 c hc
  have h2 : ∀ c ∈ WS, c < 256 := by decide
  exact h2 c h1
/-! ### kinds -/
inductive Kd
  | nm (w : List Nat)
  | fr (w : List Nat)
  | to (a b : Kd)
  deriving DecidableEq
def Kd.d : Kd → PyData
  | .nm w => .tuple [.str (S wNAMED), .str (S w)]
  | .fr w => .tuple [.str (S wFREE), .str (S w)]
  | .to a b => .tuple [.str (S wTO), a.d, b.d]
def Kd.sz : Kd → Nat
  | .to a b => a.sz + b.sz + 1
  | _ => 1
def Kd.ht : Kd → Nat
  | .to a b => max a.ht b.ht + 1
  | _ => 1
/-- its names are names -/
def Kd.ok : Kd → Prop
  | .nm w => isName w = true ∨ w = wBOOL
  | .fr w => isName w = true
  | .to a b => a.ok ∧ b.ok
theorem Kd.sz_pos : ∀ k : Kd, 1 ≤ k.sz
  | .nm _ => Nat.le_refl _
  | .fr _ => Nat.le_refl _
  | .to a b => by show 1 ≤ a.sz + b.sz + 1; omega
theorem Kd.ht_sz : ∀ k : Kd, k.ht ≤ k.sz
  | .nm _ => Nat.le_refl _
  | .fr _ => Nat.le_refl _
  | .to a b => by
    have := a.ht_sz; have := b.ht_sz; have := a.sz_pos; have := b.sz_pos
    show max a.ht b.ht + 1 ≤ a.sz + b.sz + 1
    omega
theorem Kd.depth : ∀ k : Kd, k.d.depth = k.ht
  | .nm _ => by simp [Kd.d, Kd.ht, PyData.depth, PyData.depthAll]
  | .fr _ => by simp [Kd.d, Kd.ht, PyData.depth, PyData.depthAll]
  | .to a b => by simp [Kd.d, Kd.ht, PyData.depth, PyData.depthAll, a.depth, b.depth]
theorem S_beq {a b : List Nat} : (S a == S b) = decide (a = b) := by
  by_cases h : a = b
  · subst h; simp
  · rw [decide_eq_false h, beq_eq_false_iff_ne]; exact fun z => h (SX.S_inj z)
theorem cokNamed : Cok wNAMED := by show ∀ c ∈ wNAMED, c < 256; decide
theorem cokFree : Cok wFREE := by show ∀ c ∈ wFREE, c < 256; decide
theorem cokTo : Cok wTO := by show ∀ c ∈ wTO, c < 256; decide
theorem cokBool : Cok wBOOL := by show ∀ c ∈ wBOOL, c < 256; decide
theorem Kd.lay : ∀ k : Kd, k.ok → k.d.canLay0 = true
  | .nm w, h => by
    have c : Cok w := h.elim (fun h => (name_cok h).1) (fun h => by rw [h]; exact cokBool)
    simp only [Kd.d, PyData.canLay0, PyData.canLayAll0, strOk_S cokNamed, strOk_S c, Bool.and_self]
  | .fr w, h => by
    simp only [Kd.d, PyData.canLay0, PyData.canLayAll0, strOk_S cokFree, strOk_S (name_cok h).1, Bool.and_self]
  | .to a b, h => by
    simp only [Kd.d, PyData.canLay0, PyData.canLayAll0, strOk_S cokTo, a.lay h.1, b.lay h.2, Bool.and_self]
theorem Kd.Sz {k : Kd} (h : k.ok) {n : Nat} (z : k.ht ≤ n) : L2.Sz n k.d := ⟨k.lay h, by rw [k.depth]; exact z⟩
theorem Kd.eqv : ∀ a b : Kd, PyData.eqv a.d b.d = decide (a = b)
  | .nm w, .nm v => by
    simp only [Kd.d, PyData.eqv, PyData.eqvAll, S_beq]
    by_cases h : w = v
    · subst h; simp
    · simp [h]
  | .nm w, .fr v => by
    simp only [Kd.d, PyData.eqv, PyData.eqvAll, S_beq]
    rw [decide_eq_false (by decide)]; simp
  | .nm w, .to c e => by simp only [Kd.d, PyData.eqv, PyData.eqvAll, S_beq]; rw [decide_eq_false (by decide)]; simp
  | .fr w, .nm v => by
    simp only [Kd.d, PyData.eqv, PyData.eqvAll, S_beq]
    rw [decide_eq_false (by decide)]; simp
  | .fr w, .fr v => by
    simp only [Kd.d, PyData.eqv, PyData.eqvAll, S_beq]
    by_cases h : w = v
    · subst h; simp
    · simp [h]
  | .fr w, .to c e => by simp only [Kd.d, PyData.eqv, PyData.eqvAll, S_beq]; rw [decide_eq_false (by decide)]; simp
  | .to a b, .nm v => by simp only [Kd.d, PyData.eqv, PyData.eqvAll, S_beq]; rw [decide_eq_false (by decide)]; simp
  | .to a b, .fr v => by simp only [Kd.d, PyData.eqv, PyData.eqvAll, S_beq]; rw [decide_eq_false (by decide)]; simp
  | .to a b, .to c e => by
    simp only [Kd.d, PyData.eqv, PyData.eqvAll, S_beq, a.eqv c, b.eqv e]
    by_cases h1 : a = c
    · by_cases h2 : b = e
      · subst h1 h2; simp
      · simp [h2]
    · simp [h1]
/-! ### rows and trees -/
inductive Rw (κ τ : Type)
  | app
  | lam (k : κ)
  | tip (t : τ)
inductive Tr (κ τ : Type)
  | app (f a : Tr κ τ)
  | lam (k : κ) (b : Tr κ τ)
  | tip (t : τ)
section
variable {κ τ κ' τ' : Type}
def Rw.map (f : κ → κ') (g : τ → τ') : Rw κ τ → Rw κ' τ'
  | .app => .app
  | .lam k => .lam (f k)
  | .tip t => .tip (g t)
def Tr.map (f : κ → κ') (g : τ → τ') : Tr κ τ → Tr κ' τ'
  | .app x y => .app (x.map f g) (y.map f g)
  | .lam k b => .lam (f k) (b.map f g)
  | .tip t => .tip (g t)
def Tr.nodes : Tr κ τ → Nat
  | .app x y => x.nodes + y.nodes + 1
  | .lam _ b => b.nodes + 1
  | .tip _ => 1
def Tr.dep : Tr κ τ → Nat
  | .app x y => max x.dep y.dep + 1
  | .lam _ b => b.dep + 1
  | .tip _ => 1
theorem Tr.dep_pos : ∀ t : Tr κ τ, 1 ≤ t.dep
  | .app _ _ => Nat.succ_pos _
  | .lam _ _ => Nat.succ_pos _
  | .tip _ => Nat.le_refl _
theorem Tr.nodes_pos : ∀ t : Tr κ τ, 1 ≤ t.nodes
  | .app _ _ => Nat.succ_pos _
  | .lam _ _ => Nat.succ_pos _
  | .tip _ => Nat.le_refl _
/-- one row ahead of a forest -/
def push1 : Rw κ τ → List (Tr κ τ) → List (Tr κ τ)
  | .app, f :: a :: ts => .app f a :: ts
  | .lam k, b :: ts => .lam k b :: ts
  | .tip t, ts => .tip t :: ts
  | _, ts => ts
/-- the forest of some rows, read from the right -/
def fo : List (Rw κ τ) → List (Tr κ τ)
  | [] => []
  | r :: c => push1 r (fo c)
/-- how many trees a row takes -/
def Rw.ar : Rw κ τ → Nat
  | .app => 2
  | .lam _ => 1
  | .tip _ => 0
def fok : List (Rw κ τ) → Prop
  | [] => True
  | r :: c => r.ar ≤ (fo c).length ∧ fok c
def Vc (c : List (Rw κ τ)) (n : Nat) : Prop := fok c ∧ (fo c).length = n
theorem push1_len {r : Rw κ τ} {ts : List (Tr κ τ)} (h : r.ar ≤ ts.length) : (push1 r ts).length + r.ar = ts.length + 1 := by
  cases r with
  | app =>
    match ts, h with
    | f :: a :: ts, _ => show ts.length + 1 + 2 = ts.length + 1 + 1 + 1; omega
    | [_], h => exact absurd h (by show ¬ 2 ≤ 1; omega)
    | [], h => exact absurd h (by show ¬ 2 ≤ 0; omega)
  | lam k =>
    match ts, h with
    | b :: ts, _ => rfl
    | [], h => exact absurd h (by show ¬ 1 ≤ 0; omega)
  | tip t => rfl
theorem Vc.nil : Vc ([] : List (Rw κ τ)) 0 := ⟨trivial, rfl⟩
theorem Vc.cons {r : Rw κ τ} {c : List (Rw κ τ)} {n : Nat} (h : Vc c (n + r.ar)) : Vc (r :: c) (n + 1) := by
  have hl : r.ar ≤ (fo c).length := by rw [h.2]; omega
  refine ⟨⟨hl, h.1⟩, ?_⟩
  have := push1_len hl
  show (push1 r (fo c)).length = _
  have h2 := h.2
  omega
theorem Vc.app {c : List (Rw κ τ)} {n : Nat} (h : Vc c (n + 2)) : Vc (.app :: c) (n + 1) := Vc.cons (r := .app) h
theorem Vc.lam {c : List (Rw κ τ)} {n : Nat} {k : κ} (h : Vc c (n + 1)) : Vc (.lam k :: c) (n + 1) := Vc.cons (r := .lam k) h
theorem Vc.tip {c : List (Rw κ τ)} {n : Nat} {t : τ} (h : Vc c n) : Vc (.tip t :: c) (n + 1) := Vc.cons (r := .tip t) h
theorem Vc.uncons {r : Rw κ τ} {c : List (Rw κ τ)} {n : Nat} (h : Vc (r :: c) n) : ∃ m, n = m + 1 ∧ Vc c (m + r.ar) := by
  obtain ⟨⟨h1, h2⟩, h3⟩ := h
  have e := push1_len h1
  have h3 : (push1 r (fo c)).length = n := h3
  exact ⟨(fo c).length - r.ar, by omega, h2, by omega⟩
theorem Vc.append {c1 c2 : List (Rw κ τ)} {m n : Nat} (h1 : Vc c1 m) (h2 : Vc c2 n) : Vc (c1 ++ c2) (m + n) := by
  induction c1 generalizing m with
  | nil =>
    have : m = 0 := h1.2.symm
    subst this
    rw [Nat.zero_add]; exact h2
  | cons r c1 ih =>
    obtain ⟨k, rfl, h⟩ := h1.uncons
    have := ih h
    rw [show k + 1 + n = (k + n) + 1 by omega]
    exact Vc.cons (by rw [show k + n + r.ar = k + r.ar + n by omega]; exact this)
theorem Vc.set {c : List (Rw κ τ)} {n : Nat} (h : Vc c n) {i : Nat} {r r' : Rw κ τ} (e : c[i]? = some r) (a : r'.ar = r.ar) : Vc (c.set i r') n := by
  induction c generalizing i n with
  | nil => cases e
  | cons q c ih =>
    obtain ⟨m, rfl, h'⟩ := h.uncons
    cases i with
    | zero => cases e; exact Vc.cons (by rw [a]; exact h')
    | succ i => exact Vc.cons (ih h' e)
theorem push1_map (f : κ → κ') (g : τ → τ') (r : Rw κ τ) (ts : List (Tr κ τ)) : push1 (r.map f g) (ts.map (Tr.map f g)) = (push1 r ts).map (Tr.map f g) := by
  cases r with
  | app =>
    match ts with
    | [] => rfl
    | [_] => rfl
    | _ :: _ :: _ => rfl
  | lam k => cases ts <;> rfl
  | tip t => rfl
theorem fo_map (f : κ → κ') (g : τ → τ') : ∀ c : List (Rw κ τ), fo (c.map (Rw.map f g)) = (fo c).map (Tr.map f g)
  | [] => rfl
  | r :: c => by
    show push1 (r.map f g) (fo (c.map _)) = _
    rw [fo_map f g c, push1_map]; rfl
theorem ar_map (f : κ → κ') (g : τ → τ') (r : Rw κ τ) : (r.map f g).ar = r.ar := by cases r <;> rfl
theorem Vc.map (f : κ → κ') (g : τ → τ') {c : List (Rw κ τ)} {n : Nat} (h : Vc c n) : Vc (c.map (Rw.map f g)) n := by
  induction c generalizing n with
  | nil => exact h.2 ▸ Vc.nil
  | cons r c ih =>
    obtain ⟨m, rfl, h'⟩ := h.uncons
    exact Vc.cons (by rw [ar_map]; exact ih h')
theorem nodes_map (f : κ → κ') (g : τ → τ') : ∀ t : Tr κ τ, (t.map f g).nodes = t.nodes
  | .app x y => by show (x.map f g).nodes + (y.map f g).nodes + 1 = _; rw [nodes_map, nodes_map]; rfl
  | .lam k b => by show (b.map f g).nodes + 1 = _; rw [nodes_map]; rfl
  | .tip _ => rfl
theorem dep_map (f : κ → κ') (g : τ → τ') : ∀ t : Tr κ τ, (t.map f g).dep = t.dep
  | .app x y => by show max (x.map f g).dep (y.map f g).dep + 1 = _; rw [dep_map, dep_map]; rfl
  | .lam k b => by show (b.map f g).dep + 1 = _; rw [dep_map]; rfl
  | .tip _ => rfl
/-- the rows of a forest are as many as its nodes -/
theorem fo_nodes {c : List (Rw κ τ)} {n : Nat} (h : Vc c n) : ((fo c).map Tr.nodes).sum = c.length := by
  induction c generalizing n with
  | nil => rfl
  | cons r c ih =>
    obtain ⟨m, rfl, h'⟩ := h.uncons
    have e := ih h'
    have hl : r.ar ≤ (fo c).length := by rw [h'.2]; omega
    show ((push1 r (fo c)).map Tr.nodes).sum = c.length + 1
    rw [← e]
    clear e ih h h'
    cases r with
    | app =>
      match q : fo c, hl with
      | x :: y :: ts, _ =>
        show x.nodes + y.nodes + 1 + (ts.map Tr.nodes).sum = x.nodes + (y.nodes + (ts.map Tr.nodes).sum) + 1
        omega
      | [_], h => exact absurd h (by show ¬ 2 ≤ 1; omega)
      | [], h => exact absurd h (by show ¬ 2 ≤ 0; omega)
    | lam k =>
      match q : fo c, hl with
      | x :: ts, _ =>
        show x.nodes + 1 + (ts.map Tr.nodes).sum = x.nodes + (ts.map Tr.nodes).sum + 1
        omega
      | [], h => exact absurd h (by show ¬ 1 ≤ 0; omega)
    | tip t => show 1 + ((fo c).map Tr.nodes).sum = _; omega
theorem Vc.tree {c : List (Rw κ τ)} (h : Vc c 1) : ∃ t, fo c = [t] := by
  match q : fo c, h.2 with
  | [t], _ => exact ⟨t, rfl⟩
  | [], z => cases z
  | _ :: _ :: _, z => cases z
end
/-! ### what rows and trees are in Python -/
inductive Tp
  | tip (d : PyData)
  | odd (d : PyData)
abbrev PRow := Rw PyData Tp
abbrev PTr := Tr PyData Tp
def Tp.row : Tp → PyData
  | .tip d => d
  | .odd d => .tuple [.str (S wODD), d]
def Tp.d : Tp → PyData
  | .tip d => d
  | .odd d => d
def Rw.d : PRow → PyData
  | .app => .tuple [.str (S wAPP)]
  | .lam k => .tuple [.str (S wLAM), k]
  | .tip t => t.row
def Tr.d : PTr → PyData
  | .app f a => .tuple [.str (S wAPP), f.d, a.d]
  | .lam k b => .tuple [.str (S wLAM), k, b.d]
  | .tip t => t.d
/-- a leaf's row is told by its first word -/
def TipOk (d : PyData) : Prop := ∃ s r, d = .tuple (.str (S s) :: r) ∧ s ≠ wAPP ∧ s ≠ wLAM ∧ s ≠ wODD
def RowOk : PRow → Prop
  | .tip (.tip d) => TipOk d
  | _ => True
/-- a well-made leaf -/
inductive Lf
  | var (w : List Nat) (k : Kd)
  | cst (w : List Nat) (k : Kd)
  | bnd (i : Nat)
def Lf.d : Lf → PyData
  | .var w k => .tuple [.str (S wVAR), .str (S w), k.d]
  | .cst w k => .tuple [.str (S wCONST), .str (S w), k.d]
  | .bnd i => .tuple [.str (S wBOUND), .int (i : Int)]
abbrev G2 := Rw Kd Lf
abbrev Gt := Tr Kd Lf
def upR : G2 → PRow := Rw.map Kd.d (fun l => .tip l.d)
def upT : Gt → PTr := Tr.map Kd.d (fun l => .tip l.d)
def LOGIC : List (List Nat) := [[116,114,117,101],[102,97,108,115,101],[126],[38],[124],[61,62],[61],[97,108,108],[115,111,109,101]]
def GK (k : Kd) : Prop := k.ok ∧ k.sz ≤ 100
def Lf.ok : Lf → Prop
  | .var w k => isName w = true ∧ GK k
  | .cst w k => (isName w = true ∨ w ∈ LOGIC) ∧ GK k
  | .bnd _ => True
def Rw.gok : G2 → Prop
  | .app => True
  | .lam k => GK k
  | .tip l => l.ok
def Tr.gok : Gt → Prop
  | .app f a => f.gok ∧ a.gok
  | .lam k b => GK k ∧ b.gok
  | .tip l => l.ok
theorem lf_tip (l : Lf) : TipOk l.d := by
  cases l with
  | var w k => exact ⟨_, _, rfl, by decide, by decide, by decide⟩
  | cst w k => exact ⟨_, _, rfl, by decide, by decide, by decide⟩
  | bnd i => exact ⟨_, _, rfl, by decide, by decide, by decide⟩
theorem upR_ok (r : G2) : RowOk (upR r) := by cases r with | app => trivial | lam k => trivial | tip l => exact lf_tip l
theorem fo_gok {c : List G2} {n : Nat} (v : Vc c n) (h : ∀ r ∈ c, r.gok) : ∀ t ∈ fo c, t.gok := by
  induction c generalizing n with
  | nil => intro t ht; cases ht
  | cons r c ih =>
    obtain ⟨m, rfl, v'⟩ := v.uncons
    have hl : r.ar ≤ (fo c).length := by rw [v'.2]; omega
    have ih := ih v' fun r hr => h r (List.mem_cons_of_mem _ hr)
    have hr := h r List.mem_cons_self
    show ∀ t ∈ push1 r (fo c), t.gok
    cases r with
    | app =>
      match q : fo c, hl, ih with
      | x :: y :: ts, _, ih =>
        intro t ht
        rcases List.mem_cons.mp ht with rfl | ht
        · exact ⟨ih x (by simp), ih y (by simp)⟩
        · exact ih t (by simp [ht])
      | [_], h, _ => exact absurd h (by show ¬ 2 ≤ 1; omega)
      | [], h, _ => exact absurd h (by show ¬ 2 ≤ 0; omega)
    | lam k =>
      match q : fo c, hl, ih with
      | x :: ts, _, ih =>
        intro t ht
        rcases List.mem_cons.mp ht with rfl | ht
        · exact ⟨hr, ih x (by simp)⟩
        · exact ih t (by simp [ht])
      | [], h, _ => exact absurd h (by show ¬ 1 ≤ 0; omega)
    | tip l =>
      intro t ht
      rcases List.mem_cons.mp ht with rfl | ht
      · exact hr
      · exact ih t ht
/-! ### typing -/
def typed : Gt → List Kd → Option Kd
  | .app f a, ar => match typed f ar, typed a ar with
    | some (.to x y), some z => if x = z then some y else none
    | _, _ => none
  | .lam k b, ar => match typed b (k :: ar) with
    | some x => some (.to k x)
    | none => none
  | .tip (.var _ k), _ => some k
  | .tip (.cst _ k), _ => some k
  | .tip (.bnd i), ar => ar[i]?
/-- bound variables below l -/
def inScope : Gt → Nat → Bool
  | .app f a, l => inScope f l && inScope a l
  | .lam _ b, l => inScope b (l + 1)
  | .tip (.bnd i), l => decide (i < l)
  | .tip _, _ => true
end K02

/-! The plain law of k02: what kind_ok and _form_ok say of any value that is asked here. -/
namespace K02
open PySem L2 TL SX
/-- what _kind_parts says -/
inductive KP : PyData → Option (List PyData) → Prop
  | notT {d : PyData} (h : tyOf d ≠ "tuple") : KP d none
  | to (a b : PyData) : KP (.tuple [.str (S wTO), a, b]) (some [a, b])
  | len {ds : List PyData} (h2 : ds.length ≠ 2) (h3 : ds.length ≠ 3) : KP (.tuple ds) none
  | three {s : List Nat} (a b : PyData) (h : s ≠ wTO) : KP (.tuple [.str (S s), a, b]) none
  | two {s : List Nat} (a : PyData) (h : s ≠ wNAMED) (h' : s ≠ wFREE) : KP (.tuple [.str (S s), a]) none
  | name {s w : List Nat} (h : s = wNAMED ∨ s = wFREE) (hw : Cok w) (hl : w.length ≤ 1000) : KP (.tuple [.str (S s), .str (S w)]) (if (decide (s = wNAMED ∧ w = wBOOL) || isName w) = true then some [] else none)
  | odd {s : List Nat} {a : PyData} (h : s = wNAMED ∨ s = wFREE) (ha : tyOf a ≠ "str") (hs : L2.Sz 100 a) : KP (.tuple [.str (S s), a]) none
inductive VKd : PyData → Nat → Prop
  | leaf {d : PyData} (h : KP d (some [])) : VKd d 1
  | node {a b : PyData} {m n : Nat} (h : VKd a m) (k : VKd b n) : VKd (.tuple [.str (S wTO), a, b]) (m + n + 1)
inductive BadK : PyData → Prop
  | leaf {d : PyData} (h : KP d none) : BadK d
  | l {a b : PyData} {n : Nat} (h : BadK a) (k : VKd b n) : BadK (.tuple [.str (S wTO), a, b])
  | r {a b : PyData} {n : Nat} (h : VKd a n) (k : BadK b) : BadK (.tuple [.str (S wTO), a, b])
  | lr {a b : PyData} (h : BadK a) (k : BadK b) : BadK (.tuple [.str (S wTO), a, b])
theorem Kd.vk : ∀ k : Kd, k.ok → VKd k.d k.sz
  | .nm w, h => .leaf (by
      have hc : Cok w ∧ w.length ≤ 1000 := h.elim (fun h => ⟨(name_cok h).1, by have := (name_cok h).2; omega⟩) (fun h => by rw [h]; exact ⟨cokBool, by decide⟩)
      have := KP.name (s := wNAMED) (w := w) (.inl rfl) hc.1 hc.2
      rw [if_pos (by rcases h with h | h; rw [h, Bool.or_true]; rw [h]; decide)] at this
      exact this)
  | .fr w, h => .leaf (by
      have h : isName w = true := h
      have := KP.name (s := wFREE) (w := w) (.inr rfl) (name_cok h).1 (by have := (name_cok h).2; omega)
      rw [if_pos (by rw [h, Bool.or_true])] at this
      exact this)
  | .to a b, h => .node (a.vk h.1) (b.vk h.2)
/-- kind_ok says b of k -/
inductive KF : PyData → Bool → Prop
  | good {k : PyData} {n : Nat} (h : VKd k n) : KF k (decide (n ≤ 100))
  | bad {k : PyData} (h : BadK k) : KF k false
theorem GK.kf {k : Kd} (h : GK k) : KF k.d true := by
  have := KF.good (k.vk h.1)
  rwa [decide_eq_true h.2] at this
/-- _form_ok says b of d at level l -/
inductive LF : PyData → Nat → Bool → Prop
  | notT {d : PyData} {l : Nat} (h : tyOf d ≠ "tuple") : LF d l false
  | len {ds : List PyData} {l : Nat} (h2 : ds.length ≠ 2) (h3 : ds.length ≠ 3) : LF (.tuple ds) l false
  | two {s : List Nat} {x : PyData} {l : Nat} (h : s ≠ wBOUND) (h1 : tyOf x ≠ "int") (h2 : tyOf x ≠ "bool") : LF (.tuple [.str (S s), x]) l false
  | bndO {x : PyData} {l : Nat} (h : tyOf x ≠ "int") (h' : tyOf x ≠ "bool") : LF (.tuple [.str (S wBOUND), x]) l false
  | bnd {i : Int} {l : Nat} : LF (.tuple [.str (S wBOUND), .int i]) l (decide (0 ≤ i ∧ i < l))
  | three {s : List Nat} {x y : PyData} {l : Nat} (h1 : s ≠ wVAR) (h2 : s ≠ wCONST) (h3 : s ≠ wLAM) (h4 : s ≠ wAPP) : LF (.tuple [.str (S s), x, y]) l false
  | app {x y : PyData} {l : Nat} : LF (.tuple [.str (S wAPP), x, y]) l true
  | lam {x y : PyData} {l : Nat} {b : Bool} (h : KF x b) : LF (.tuple [.str (S wLAM), x, y]) l b
  | varO {x y : PyData} {l : Nat} (h : tyOf x ≠ "str") : LF (.tuple [.str (S wVAR), x, y]) l false
  | varN {w : List Nat} {y : PyData} {l : Nat} (hl : w.length ≤ 1000) (h : isName w = false) : LF (.tuple [.str (S wVAR), .str (S w), y]) l false
  | var {w : List Nat} {y : PyData} {l : Nat} {b : Bool} (h : isName w = true) (k : KF y b) : LF (.tuple [.str (S wVAR), .str (S w), y]) l b
  | cstO {x y : PyData} {l : Nat} (h : tyOf x ≠ "str") (hs : L2.Sz 100 x) : LF (.tuple [.str (S wCONST), x, y]) l false
  | cstN {w : List Nat} {y : PyData} {l : Nat} (hl : w.length ≤ 1000) (hc : Cok w) (h : isName w = false) (h' : w ∉ LOGIC) : LF (.tuple [.str (S wCONST), .str (S w), y]) l false
  | cst {w : List Nat} {y : PyData} {l : Nat} {b : Bool} (hl : w.length ≤ 1000) (h : isName w = true ∨ w ∈ LOGIC) (k : KF y b) : LF (.tuple [.str (S wCONST), .str (S w), y]) l b
/-- all parts of a tree, asked one by one, give b together -/
inductive AK : PTr → Nat → Bool → Prop
  | app {f a : PTr} {l : Nat} {b c : Bool} (h : AK f l b) (k : AK a l c) : AK (.app f a) l (b && c)
  | lam {k : PyData} {t : PTr} {l : Nat} {b c : Bool} (h : KF k b) (j : AK t (l + 1) c) : AK (.lam k t) l (b && c)
  | tip {t : Tp} {l : Nat} {b : Bool} (h : LF t.d l b) (hl : b = true → ∀ s r, t.d = .tuple (.str (S s) :: r) → s ≠ wAPP ∧ s ≠ wLAM) : AK (.tip t) l b
theorem Lf.lf {l : Lf} (h : l.ok) (n : Nat) : LF l.d n (inScope (.tip l) n) := by
  cases l with
  | var w k => exact .var h.1 h.2.kf
  | cst w k =>
    have : w.length ≤ 1000 := h.1.elim (fun h => by have := (name_cok h).2; omega) (fun h => by
      have : ∀ w ∈ LOGIC, w.length ≤ 1000 := by decide
      exact this w h)
    exact .cst this h.1 h.2.kf
  | bnd i =>
    have := LF.bnd (i := (i : Int)) (l := n)
    rw [show decide (0 ≤ (i : Int) ∧ (i : Int) < (n : Int)) = decide (i < n) by
      by_cases z : i < n
      · rw [decide_eq_true z, decide_eq_true (by omega)]
      · rw [decide_eq_false z, decide_eq_false (by omega)]] at this
    exact this
theorem Tr.gok_ak : ∀ {t : Gt} (n : Nat), t.gok → AK (upT t) n (inScope t n)
  | .app f a, n, h => .app (gok_ak n h.1) (gok_ak n h.2)
  | .lam k b, n, h => by
    have := AK.lam h.1.kf (gok_ak (n + 1) h.2)
    rw [Bool.true_and] at this
    exact this
  | .tip l, n, h => .tip (Lf.lf h n) (fun _ s r e => by
      have e : l.d = .tuple (.str (S s) :: r) := e
      cases l with
      | var w k =>
        have : S wVAR = S s := by have := e; simp only [Lf.d, PyData.tuple.injEq, List.cons.injEq, PyData.str.injEq] at this; exact this.1
        rw [← SX.S_inj this]; exact ⟨by decide, by decide⟩
      | cst w k =>
        have : S wCONST = S s := by have := e; simp only [Lf.d, PyData.tuple.injEq, List.cons.injEq, PyData.str.injEq] at this; exact this.1
        rw [← SX.S_inj this]; exact ⟨by decide, by decide⟩
      | bnd i =>
        have : S wBOUND = S s := by have := e; simp only [Lf.d, PyData.tuple.injEq, List.cons.injEq, PyData.str.injEq] at this; exact this.1
        rw [← SX.S_inj this]; exact ⟨by decide, by decide⟩)
theorem LF.head {d : PyData} {l : Nat} (h : LF d l true) : ∃ s r, d = .tuple (.str (S s) :: r) := by
  generalize hb : true = b at h
  cases h with
  | notT h => cases hb
  | len h2 h3 => cases hb
  | two h h1 h2 => cases hb
  | bndO h h' => cases hb
  | bnd => exact ⟨_, _, rfl⟩
  | three h1 h2 h3 h4 => cases hb
  | app => exact ⟨_, _, rfl⟩
  | lam h => exact ⟨_, _, rfl⟩
  | varO h => cases hb
  | varN hl h => cases hb
  | var h k => exact ⟨_, _, rfl⟩
  | cstO h hs => cases hb
  | cstN hl hc h h' => cases hb
  | cst hl h k => exact ⟨_, _, rfl⟩
/-- a tree's root and its parts -/
def Parts (t : PTr) (l : Nat) (b : Bool) : Prop := match t with
  | .app f a => ∃ c1 c2, AK f l c1 ∧ AK a l c2 ∧ b = (c1 && c2)
  | .lam _ u => ∃ c, AK u (l + 1) c ∧ b = c
  | .tip p => b = true ∧ ∃ s r, p.d = .tuple (.str (S s) :: r) ∧ s ≠ wAPP ∧ s ≠ wLAM
theorem AK.root {t : PTr} {l : Nat} {b : Bool} (h : AK t l b) : ∃ b0, LF t.d l b0 ∧ (b0 = false → b = false) ∧ (b0 = true → Parts t l b) := by
  cases h with
  | app h k => exact ⟨true, .app, (fun z => by cases z), fun _ => ⟨_, _, h, k, rfl⟩⟩
  | lam h j =>
    rename_i k t b0 c
    exact ⟨b0, .lam h, (fun z => by rw [z]; rfl), fun z => ⟨_, j, by rw [z]; rfl⟩⟩
  | tip h hl =>
    refine ⟨b, h, id, fun z => ?_⟩
    subst z
    obtain ⟨s, r, e⟩ := h.head
    exact ⟨rfl, s, r, e, hl rfl s r e⟩
/-! the stack of a walk over a tree: parts with their depths -/
def dm {α : Type} (dep : α → Nat) (p : α → Nat) : List α → Nat
  | [] => 0
  | e :: r => max (p e + dep e) (dm dep p r)
theorem dm_app {α : Type} (dep p : α → Nat) : ∀ xs ys : List α, dm dep p (xs ++ ys) = max (dm dep p xs) (dm dep p ys)
  | [], ys => by show dm dep p ys = max 0 _; omega
  | e :: r, ys => by show max _ (dm dep p (r ++ ys)) = max (max _ _) _; rw [dm_app dep p r ys]; omega
theorem typed_ht : ∀ {g : Gt} {ar : List Kd} {k : Kd}, g.gok → (∀ k ∈ ar, k.ok ∧ k.ht ≤ 100) → typed g ar = some k → k.ok ∧ k.ht ≤ 100 + g.dep
  | .app f a, ar, k, h, ha, e => by
    unfold typed at e
    cases e1 : typed f ar with
    | none => rw [e1] at e; cases e
    | some x =>
      cases e2 : typed a ar with
      | none => rw [e1, e2] at e; cases x <;> cases e
      | some z =>
        rw [e1, e2] at e
        obtain ⟨q1, q2⟩ := typed_ht h.1 ha e1
        cases x with
        | nm w => cases e
        | fr w => cases e
        | to x y =>
          dsimp only at e
          split at e
          · cases e
            have q2 : max x.ht k.ht + 1 ≤ 100 + f.dep := q2
            exact ⟨q1.2, by show k.ht ≤ 100 + (max f.dep a.dep + 1); omega⟩
          · cases e
  | .lam k b, ar, k', h, ha, e => by
    unfold typed at e
    cases e1 : typed b (k :: ar) with
    | none => rw [e1] at e; cases e
    | some x =>
      rw [e1] at e
      cases e
      have hk : k.ht ≤ 100 := Nat.le_trans k.ht_sz h.1.2
      obtain ⟨q1, q2⟩ := typed_ht h.2 (fun k' hk' => by
        rcases List.mem_cons.mp hk' with rfl | hk'
        · exact ⟨h.1.1, hk⟩
        · exact ha k' hk') e1
      exact ⟨⟨h.1.1, q1⟩, by show max k.ht x.ht + 1 ≤ 100 + (b.dep + 1); omega⟩
  | .tip (.var w k), ar, k', h, ha, e => by
    have e : some k = some k' := e
    cases e
    exact ⟨h.2.1, by have := k.ht_sz; have := h.2.2; show k.ht ≤ 100 + 1; omega⟩
  | .tip (.cst w k), ar, k', h, ha, e => by
    have e : some k = some k' := e
    cases e
    exact ⟨h.2.1, by have := k.ht_sz; have := h.2.2; show k.ht ≤ 100 + 1; omega⟩
  | .tip (.bnd i), ar, k', h, ha, e => by
    have e : ar[i]? = some k' := e
    obtain ⟨q1, q2⟩ := ha k' (List.mem_of_getElem? e)
    exact ⟨q1, by omega⟩
/-- what the program answers -/
def wf (g : Gt) : Option Kd := if inScope g 0 = true ∧ g.nodes ≤ 400 ∧ g.dep ≤ 50 then typed g [] else none
/-! the loop of kind_ok: what is asked so far, what waits -/
def KO (size : Nat) (ds : List PyData) (b : Bool) : Prop :=
  (∃ ns, Paired VKd ds ns ∧ b = decide (size + ns.sum ≤ 100)) ∨ ((∀ d ∈ ds, (∃ n, VKd d n) ∨ BadK d) ∧ (∃ d ∈ ds, BadK d) ∧ b = false)
theorem KO.start {d : PyData} {b : Bool} (h : KF d b) : KO 0 [d] b := by
  cases h with
  | good h => rename_i n; exact .inl ⟨[n], .cons h .nil, by simp⟩
  | bad h => exact .inr ⟨fun e he => by rw [List.mem_singleton.mp he]; exact .inr h, ⟨d, List.mem_singleton.mpr rfl, h⟩, rfl⟩
theorem KO.done {size : Nat} {b : Bool} (h : KO size [] b) (z : size ≤ 100) : b = true := by
  rcases h with ⟨ns, p, rfl⟩ | ⟨_, ⟨d, hd, _⟩, _⟩
  · cases p; exact decide_eq_true (by simpa using z)
  · cases hd
theorem KO.over {size : Nat} {ds : List PyData} {b : Bool} (h : KO size ds b) (z : 100 < size) : b = false := by
  rcases h with ⟨ns, p, rfl⟩ | ⟨_, _, h⟩
  · exact decide_eq_false (by omega)
  · exact h
theorem paired_snoc {α β : Type} {R : α → β → Prop} : ∀ {xs : List α} {x : α} {ys : List β}, Paired R (xs ++ [x]) ys → ∃ zs y, ys = zs ++ [y] ∧ Paired R xs zs ∧ R x y
  | [], x, _, .cons a r => by cases r; exact ⟨[], _, rfl, .nil, a⟩
  | x' :: xs, x, _, .cons a r => by
    obtain ⟨zs, y, rfl, p, q⟩ := paired_snoc r
    exact ⟨_ :: zs, y, rfl, .cons a p, q⟩
theorem paired_app {α β : Type} {R : α → β → Prop} : ∀ {xs : List α} {ys : List β} {xs' : List α} {ys' : List β}, Paired R xs ys → Paired R xs' ys' → Paired R (xs ++ xs') (ys ++ ys')
  | _, _, _, _, .nil, q => q
  | _, _, _, _, .cons a r, q => .cons a (paired_app r q)
theorem KO.step {size : Nat} {ds : List PyData} {e : PyData} {b : Bool} (h : KO size (ds ++ [e]) b) : ∃ o, KP e o ∧ (o = none → b = false) ∧ ∀ l, o = some l → KO (size + 1) (ds ++ l) b ∧ l.length ≤ 2 := by
  rcases h with ⟨ns, p, rfl⟩ | ⟨h1, ⟨d, hd, hb⟩, rfl⟩
  · obtain ⟨ms, n, rfl, p1, q⟩ := paired_snoc p
    cases q with
    | leaf hk =>
      refine ⟨_, hk, (fun z => by cases z), fun l z => ?_⟩
      cases z
      exact ⟨.inl ⟨ms, by rw [List.append_nil]; exact p1, by rw [List.sum_append]; congr 1; simp; omega⟩, Nat.zero_le _⟩
    | node ha hc =>
      rename_i a c m k
      refine ⟨_, .to a c, (fun z => by cases z), fun l z => ?_⟩
      cases z
      refine ⟨.inl ⟨ms ++ [m, k], paired_app p1 (.cons ha (.cons hc .nil)), ?_⟩, Nat.le_refl _⟩
      rw [List.sum_append, List.sum_append]; congr 1; simp; omega
  · have rest : ∀ l : List PyData, (∀ x ∈ l, (∃ n, VKd x n) ∨ BadK x) → ((∃ x ∈ ds, BadK x) ∨ ∃ x ∈ l, BadK x) → KO (size + 1) (ds ++ l) false := fun l q1 q2 => by
      refine .inr ⟨fun x hx => ?_, ?_, rfl⟩
      · rcases List.mem_append.mp hx with hx | hx
        · exact h1 x (List.mem_append_left _ hx)
        · exact q1 x hx
      · rcases q2 with ⟨x, hx, hx'⟩ | ⟨x, hx, hx'⟩
        · exact ⟨x, List.mem_append_left _ hx, hx'⟩
        · exact ⟨x, List.mem_append_right _ hx, hx'⟩
    have hbad : BadK e ∨ ((∃ x ∈ ds, BadK x) ∧ ∃ n, VKd e n) := by
      rcases List.mem_append.mp hd with hd | hd
      · rcases h1 e (List.mem_append_right _ (List.mem_singleton.mpr rfl)) with h | h
        · exact .inr ⟨⟨d, hd, hb⟩, h⟩
        · exact .inl h
      · rw [List.mem_singleton.mp hd] at hb; exact .inl hb
    rcases hbad with hbad | ⟨hx, n, hv⟩
    · cases hbad with
      | leaf hk => exact ⟨_, hk, (fun _ => rfl), fun l z => by cases z⟩
      | l ha hc =>
        rename_i a c n
        refine ⟨_, .to a c, (fun z => by cases z), fun l z => ?_⟩
        cases z
        exact ⟨rest _ (by intro x hx; simp at hx; rcases hx with rfl | rfl; exact .inr ha; exact .inl ⟨_, hc⟩) (.inr ⟨a, by simp, ha⟩), Nat.le_refl _⟩
      | r ha hc =>
        rename_i a c n
        refine ⟨_, .to a c, (fun z => by cases z), fun l z => ?_⟩
        cases z
        exact ⟨rest _ (by intro x hx; simp at hx; rcases hx with rfl | rfl; exact .inl ⟨_, ha⟩; exact .inr hc) (.inr ⟨c, by simp, hc⟩), Nat.le_refl _⟩
      | lr ha hc =>
        rename_i a c
        refine ⟨_, .to a c, (fun z => by cases z), fun l z => ?_⟩
        cases z
        exact ⟨rest _ (by intro x hx; simp at hx; rcases hx with rfl | rfl; exact .inr ha; exact .inr hc) (.inr ⟨a, by simp, ha⟩), Nat.le_refl _⟩
    · cases hv with
      | leaf hk =>
        refine ⟨_, hk, (fun z => by cases z), fun l z => ?_⟩
        cases z
        exact ⟨rest [] (fun x hx => by cases hx) (.inl hx), Nat.zero_le _⟩
      | node ha hc =>
        rename_i a c m k
        refine ⟨_, .to a c, (fun z => by cases z), fun l z => ?_⟩
        cases z
        exact ⟨rest _ (by intro x hx; simp at hx; rcases hx with rfl | rfl; exact .inl ⟨_, ha⟩; exact .inl ⟨_, hc⟩) (.inl hx), Nat.le_refl _⟩
end K02

/-! The plain law of k02: walks over rows. -/
namespace K02
open PySem L2 TL SX
section
variable {κ τ : Type} {α : Type}
theorem fok_drop {c : List (Rw κ τ)} (h : fok c) (k : Nat) : fok (c.drop k) := by
  induction k generalizing c with
  | zero => exact h
  | succ k ih =>
    cases c with
    | nil => exact h
    | cons r c => exact ih h.2
/-- the row at k and what is behind it -/
theorem drop_at {c : List (Rw κ τ)} {k : Nat} {r : Rw κ τ} (e : c[k]? = some r) : c.drop k = r :: c.drop (k + 1) := by
  obtain ⟨hk, rfl⟩ := List.getElem?_eq_some_iff.mp e
  exact List.drop_eq_getElem_cons hk
theorem fo_at {c : List (Rw κ τ)} {k : Nat} {r : Rw κ τ} (e : c[k]? = some r) : fo (c.drop k) = push1 r (fo (c.drop (k + 1))) := by rw [drop_at e]; rfl
theorem ar_at {c : List (Rw κ τ)} (h : fok c) {k : Nat} {r : Rw κ τ} (e : c[k]? = some r) : r.ar ≤ (fo (c.drop (k + 1))).length := by
  have := fok_drop h k
  rw [drop_at e] at this
  exact this.1
theorem two_of {l : List α} (h : 2 ≤ l.length) : ∃ a b r, l = a :: b :: r := by
  match l, h with
  | a :: b :: r, _ => exact ⟨a, b, r, rfl⟩
  | [_], h => exact absurd h (by show ¬ 2 ≤ 1; omega)
  | [], h => exact absurd h (by show ¬ 2 ≤ 0; omega)
theorem one_of {l : List α} (h : 1 ≤ l.length) : ∃ a r, l = a :: r := by
  match l, h with
  | a :: r, _ => exact ⟨a, r, rfl⟩
  | [], h => exact absurd h (by show ¬ 1 ≤ 0; omega)
/-- the trees behind a row: what they are and what they become -/
theorem at_app {c : List (Rw κ τ)} (h : fok c) {k : Nat} (e : c[k]? = some .app) : ∃ f a ts, fo (c.drop (k + 1)) = f :: a :: ts ∧ fo (c.drop k) = .app f a :: ts := by
  obtain ⟨f, a, ts, q⟩ := two_of (ar_at h e)
  exact ⟨f, a, ts, q, by rw [fo_at e, q]; rfl⟩
theorem at_lam {c : List (Rw κ τ)} (h : fok c) {k : Nat} {x : κ} (e : c[k]? = some (.lam x)) : ∃ b ts, fo (c.drop (k + 1)) = b :: ts ∧ fo (c.drop k) = .lam x b :: ts := by
  obtain ⟨b, ts, q⟩ := one_of (ar_at h e)
  exact ⟨b, ts, q, by rw [fo_at e, q]; rfl⟩
theorem at_tip {c : List (Rw κ τ)} {k : Nat} {t : τ} (e : c[k]? = some (.tip t)) : fo (c.drop k) = .tip t :: fo (c.drop (k + 1)) := by rw [fo_at e]; rfl
theorem fo_len {c : List (Rw κ τ)} (h : fok c) (k : Nat) : (fo (c.drop k)).length ≤ c.length - k := by
  induction c generalizing k with
  | nil => cases k <;> exact Nat.zero_le _
  | cons r c ih =>
    cases k with
    | zero =>
      have e := push1_len h.1
      have := ih h.2 0
      have h2 : (fo (c.drop 0)).length ≤ c.length - 0 := this
      rw [List.drop_zero] at h2
      show (push1 r (fo c)).length ≤ (c.length + 1) - 0
      omega
    | succ k =>
      have := ih h.2 k
      show (fo (c.drop k)).length ≤ (c.length + 1) - (k + 1)
      omega
/-! what waits -/
def nxt (ap : α → α) (lm : κ → α → α) : Rw κ τ → List α → List α
  | .app, p :: ps => ap p :: ap p :: ps
  | .lam k, p :: ps => lm k p :: ps
  | .tip _, _ :: ps => ps
  | _, [] => []
def pend (ap : α → α) (lm : κ → α → α) (c : List (Rw κ τ)) (p0 : List α) : Nat → List α
  | 0 => p0
  | k + 1 => match c[k]? with
    | some r => nxt ap lm r (pend ap lm c p0 k)
    | none => pend ap lm c p0 k
theorem pend_at {ap : α → α} {lm : κ → α → α} {c : List (Rw κ τ)} {p0 : List α} {k : Nat} {r : Rw κ τ} (e : c[k]? = some r) : pend ap lm c p0 (k + 1) = nxt ap lm r (pend ap lm c p0 k) := by
  show (match c[k]? with | some r => nxt ap lm r (pend ap lm c p0 k) | none => _) = _
  rw [e]
theorem pend_len {ap : α → α} {lm : κ → α → α} {c : List (Rw κ τ)} {p0 : List α} (h : fok c) (h0 : p0.length = (fo c).length) : ∀ k, k ≤ c.length → (pend ap lm c p0 k).length = (fo (c.drop k)).length
  | 0, _ => h0
  | k + 1, hk => by
    have ih := pend_len (ap := ap) (lm := lm) h h0 k (by omega)
    have e : c[k]? = some c[k] := List.getElem?_eq_getElem (by omega)
    rw [pend_at e]
    have hl := push1_len (ar_at h e)
    rw [← fo_at e] at hl
    generalize c[k] = r at e hl
    generalize hp : pend ap lm c p0 k = ps at ih
    cases ps with
    | nil =>
      have ih : 0 = (fo (c.drop k)).length := ih
      have := ar_at h e
      have hpos : 1 ≤ (fo (c.drop k)).length := by omega
      omega
    | cons p ps =>
      have ih : ps.length + 1 = (fo (c.drop k)).length := ih
      cases r with
      | app => show ps.length + 1 + 1 = _; have hl : _ + 2 = _ := hl; omega
      | lam x => show ps.length + 1 = _; have hl : _ + 1 = _ := hl; omega
      | tip t => show ps.length = _; have hl : _ + 0 = _ := hl; omega
theorem fo_ne {c : List (Rw κ τ)} (h : fok c) {k : Nat} {r : Rw κ τ} (e : c[k]? = some r) : 1 ≤ (fo (c.drop k)).length := by
  have hl := push1_len (ar_at h e)
  rw [← fo_at e] at hl
  have := ar_at h e
  omega
/-- depths that wait, with their trees -/
def zd : List Nat → List (Tr κ τ) → Nat
  | p :: ps, t :: ts => max (p + t.dep) (zd ps ts)
  | _, _ => 0
theorem zd_step {c : List (Rw κ τ)} (h : fok c) {k : Nat} {r : Rw κ τ} (e : c[k]? = some r) (p : Nat) (ps : List Nat) :
    max (p + 1) (zd (nxt (· + 1) (fun _ => (· + 1)) r (p :: ps)) (fo (c.drop (k + 1)))) = zd (p :: ps) (fo (c.drop k)) := by
  cases r with
  | app =>
    obtain ⟨f, a, ts, q1, q2⟩ := at_app h e
    rw [q1, q2]
    have := f.dep_pos; have := a.dep_pos
    show max (p + 1) (max (p + 1 + f.dep) (max (p + 1 + a.dep) (zd ps ts))) = max (p + (max f.dep a.dep + 1)) (zd ps ts)
    omega
  | lam x =>
    obtain ⟨b, ts, q1, q2⟩ := at_lam h e
    rw [q1, q2]
    have := b.dep_pos
    show max (p + 1) (max (p + 1 + b.dep) (zd ps ts)) = max (p + (b.dep + 1)) (zd ps ts)
    omega
  | tip t =>
    rw [at_tip e]
    show max (p + 1) (zd ps (fo (c.drop (k + 1)))) = max (p + 1) (zd ps (fo (c.drop (k + 1))))
    rfl
end
/-! typing by rows -/
/-- what waits: the kinds of the bound variables -/
abbrev pa (c : List G2) (k : Nat) : List (List Kd) := pend id (fun k p => k :: p) c [[]] k
/-- the trees behind row k have these kinds -/
def tys : List (List Kd) → List Gt → List (Option Kd)
  | p :: ps, t :: ts => typed t p :: tys ps ts
  | _, _ => []
theorem tys_bad {c : List G2} (h : fok c) (h1 : (fo c).length = 1) : ∀ k, k ≤ c.length → none ∈ tys (pa c k) (fo (c.drop k)) → none ∈ tys (pa c 0) (fo c)
  | 0, _, z => z
  | k + 1, hk, z => by
    refine tys_bad h h1 k (by omega) ?_
    have e : c[k]? = some c[k] := List.getElem?_eq_getElem (by omega)
    have hlen := pend_len (ap := id) (lm := fun k p => k :: p) (p0 := [([] : List Kd)]) h h1.symm k (by omega)
    have hpos := fo_ne h e
    unfold pa at z
    rw [pend_at e] at z
    generalize c[k] = r at e z
    obtain ⟨p, ps, hp⟩ := one_of (show 1 ≤ (pend id (fun k p => k :: p) c [([] : List Kd)] k).length by omega)
    unfold pa
    rw [hp] at z ⊢
    cases r with
    | app =>
      obtain ⟨f, a, ts, q1, q2⟩ := at_app h e
      rw [q1] at z
      rw [q2]
      have z : none ∈ typed f p :: typed a p :: tys ps ts := z
      show none ∈ typed (.app f a) p :: tys ps ts
      rcases List.mem_cons.mp z with z | z
      · exact List.mem_cons.mpr (.inl (by unfold typed; rw [← z]))
      · rcases List.mem_cons.mp z with z | z
        · exact List.mem_cons.mpr (.inl (by
            unfold typed; rw [← z]
            cases typed f p with
            | none => rfl
            | some x => cases x <;> rfl))
        · exact List.mem_cons.mpr (.inr z)
    | lam x =>
      obtain ⟨b, ts, q1, q2⟩ := at_lam h e
      rw [q1] at z
      rw [q2]
      have z : none ∈ typed b (x :: p) :: tys ps ts := z
      show none ∈ typed (.lam x b) p :: tys ps ts
      rcases List.mem_cons.mp z with z | z
      · exact List.mem_cons.mpr (.inl (by unfold typed; rw [← z]))
      · exact List.mem_cons.mpr (.inr z)
    | tip t =>
      rw [at_tip e]
      exact List.mem_cons.mpr (.inr z)
/-- all that waits has this -/
theorem pend_all {κ τ α : Type} {ap : α → α} {lm : κ → α → α} {c : List (Rw κ τ)} {p0 : List α} (R : Nat → α → Prop) (up : ∀ i a, R i a → R (i + 1) a) (h0 : ∀ a ∈ p0, R 0 a) (h1 : ∀ i a, R i a → R (i + 1) (ap a)) (h2 : ∀ (i : Nat) (k : κ) (a : α), Rw.lam k ∈ c → R i a → R (i + 1) (lm k a)) :
    ∀ k, k ≤ c.length → ∀ a ∈ pend ap lm c p0 k, R k a
  | 0, _, a, ha => h0 a ha
  | k + 1, hk, a, ha => by
    have ih := pend_all R up h0 h1 h2 k (by omega)
    have e : c[k]? = some c[k] := List.getElem?_eq_getElem (by omega)
    have hm : c[k] ∈ c := List.getElem_mem (by omega)
    rw [pend_at e] at ha
    generalize c[k] = r at ha hm
    generalize pend ap lm c p0 k = ps at ih ha
    cases ps with
    | nil => cases r <;> cases ha
    | cons p ps =>
      cases r with
      | app =>
        have ha : a ∈ ap p :: ap p :: ps := ha
        rcases List.mem_cons.mp ha with rfl | ha
        · exact h1 k p (ih p List.mem_cons_self)
        · rcases List.mem_cons.mp ha with rfl | ha
          · exact h1 k p (ih p List.mem_cons_self)
          · exact up k a (ih a (List.mem_cons_of_mem _ ha))
      | lam x =>
        have ha : a ∈ lm x p :: ps := ha
        rcases List.mem_cons.mp ha with rfl | ha
        · exact h2 k x p hm (ih p List.mem_cons_self)
        · exact up k a (ih a (List.mem_cons_of_mem _ ha))
      | tip t =>
        have ha : a ∈ ps := ha
        exact up k a (ih a (List.mem_cons_of_mem _ ha))
theorem pa_len {c : List G2} {k : Nat} (hk : k ≤ c.length) {p : List Kd} (hp : p ∈ pa c k) : p.length ≤ k :=
  pend_all (fun i (p : List Kd) => p.length ≤ i) (fun i a h => by omega) (fun a ha => by rw [List.mem_singleton.mp ha]; exact Nat.zero_le _) (fun i a h => by show a.length ≤ _; omega) (fun i k a _ h => by show a.length + 1 ≤ _; omega) k hk p hp
theorem pa_gk {c : List G2} (hc : ∀ r ∈ c, r.gok) {k : Nat} (hk : k ≤ c.length) {p : List Kd} (hp : p ∈ pa c k) : ∀ x ∈ p, GK x :=
  pend_all (fun _ (p : List Kd) => ∀ x ∈ p, GK x) (fun i a h => h) (fun a ha x hx => by rw [List.mem_singleton.mp ha] at hx; cases hx) (fun i a h => h) (fun i k a hm h x hx => by
    rcases List.mem_cons.mp hx with rfl | hx
    · exact hc _ hm
    · exact h x hx) k hk p hp
theorem dep_drop {κ τ : Type} {c : List (Rw κ τ)} (h : fok c) {D : Nat} (h0 : ∀ t ∈ fo c, t.dep ≤ D) : ∀ k, k ≤ c.length → ∀ t ∈ fo (c.drop k), t.dep ≤ D
  | 0, _ => h0
  | k + 1, hk => by
    have ih := dep_drop h h0 k (by omega)
    have e : c[k]? = some c[k] := List.getElem?_eq_getElem (by omega)
    generalize c[k] = r at e
    cases r with
    | app =>
      obtain ⟨f, a, ts, q1, q2⟩ := at_app h e
      rw [q1]
      rw [q2] at ih
      have z : max f.dep a.dep + 1 ≤ D := ih _ List.mem_cons_self
      intro t ht
      rcases List.mem_cons.mp ht with rfl | ht
      · omega
      · rcases List.mem_cons.mp ht with rfl | ht
        · omega
        · exact ih t (List.mem_cons_of_mem _ ht)
    | lam x =>
      obtain ⟨b, ts, q1, q2⟩ := at_lam h e
      rw [q1]
      rw [q2] at ih
      have z : b.dep + 1 ≤ D := ih _ List.mem_cons_self
      intro t ht
      rcases List.mem_cons.mp ht with rfl | ht
      · omega
      · exact ih t (List.mem_cons_of_mem _ ht)
    | tip x =>
      intro t ht
      rw [at_tip e] at ih
      exact ih t (List.mem_cons_of_mem _ ht)
theorem Vc_drop {κ τ : Type} {c : List (Rw κ τ)} (h : fok c) (k : Nat) : Vc (c.drop k) (fo (c.drop k)).length := ⟨fok_drop h k, rfl⟩
theorem gok_drop {c : List G2} (h : fok c) (hc : ∀ r ∈ c, r.gok) (k : Nat) : ∀ t ∈ fo (c.drop k), t.gok := fo_gok (Vc_drop h k) fun r hr => hc r (List.mem_of_mem_drop hr)
theorem typed_sz : ∀ {g : Gt} {ar : List Kd} {k : Kd}, g.gok → (∀ k ∈ ar, k.sz ≤ 100) → typed g ar = some k → k.sz ≤ 101 * g.nodes
  | .app f a, ar, k, h, ha, e => by
    unfold typed at e
    cases e1 : typed f ar with
    | none => rw [e1] at e; cases e
    | some x =>
      cases e2 : typed a ar with
      | none => rw [e1, e2] at e; cases x <;> cases e
      | some z =>
        rw [e1, e2] at e
        have q := typed_sz h.1 ha e1
        cases x with
        | nm w => cases e
        | fr w => cases e
        | to x y =>
          dsimp only at e
          split at e
          · cases e
            have q : x.sz + k.sz + 1 ≤ 101 * f.nodes := q
            show k.sz ≤ 101 * (f.nodes + a.nodes + 1); omega
          · cases e
  | .lam k b, ar, k', h, ha, e => by
    unfold typed at e
    cases e1 : typed b (k :: ar) with
    | none => rw [e1] at e; cases e
    | some x =>
      rw [e1] at e
      cases e
      have q := typed_sz h.2 (fun k' hk' => by
        rcases List.mem_cons.mp hk' with rfl | hk'
        · exact h.1.2
        · exact ha k' hk') e1
      have := h.1.2
      show k.sz + x.sz + 1 ≤ 101 * (b.nodes + 1); omega
  | .tip (.var w k), ar, k', h, ha, e => by
    have e : some k = some k' := e
    cases e
    have := h.2.2
    show k.sz ≤ 101 * 1; omega
  | .tip (.cst w k), ar, k', h, ha, e => by
    have e : some k = some k' := e
    cases e
    have := h.2.2
    show k.sz ≤ 101 * 1; omega
  | .tip (.bnd i), ar, k', h, ha, e => by
    have e : ar[i]? = some k' := e
    have := ha k' (List.mem_of_getElem? e)
    show k'.sz ≤ 101 * 1; omega
theorem typed_scope : ∀ {g : Gt} {ar : List Kd} {k : Kd}, typed g ar = some k → inScope g ar.length = true
  | .app f a, ar, k, e => by
    unfold typed at e
    cases e1 : typed f ar with
    | none => rw [e1] at e; cases e
    | some x =>
      cases e2 : typed a ar with
      | none => rw [e1, e2] at e; cases x <;> cases e
      | some z =>
        show (inScope f ar.length && inScope a ar.length) = true
        rw [typed_scope e1, typed_scope e2]; rfl
  | .lam k b, ar, k', e => by
    unfold typed at e
    cases e1 : typed b (k :: ar) with
    | none => rw [e1] at e; cases e
    | some x => exact typed_scope (g := b) (ar := k :: ar) e1
  | .tip (.var w k), ar, k', e => rfl
  | .tip (.cst w k), ar, k', e => rfl
  | .tip (.bnd i), ar, k', e => by
    have e : ar[i]? = some k' := e
    exact decide_eq_true (List.getElem?_eq_some_iff.mp e).1
/-- what the law awaits is what the program answers -/
theorem wf_due (g : Gt) : wf g = if g.nodes ≤ 400 ∧ g.dep ≤ 50 then typed g [] else none := by
  unfold wf
  by_cases h : g.nodes ≤ 400 ∧ g.dep ≤ 50
  · rw [if_pos h]
    by_cases hs : inScope g 0 = true
    · rw [if_pos ⟨hs, h⟩]
    · rw [if_neg (fun z => hs z.1)]
      cases e : typed g [] with
      | none => rfl
      | some k => exact absurd (typed_scope e) hs
  · rw [if_neg h, if_neg (fun z => h z.2)]
theorem Kd.short : ∀ k : Kd, k.ok → k.d.leavesShort 8 = true
  | .nm w, h => by
    have c : Cok w := h.elim (fun h => (name_cok h).1) (fun h => by rw [h]; exact cokBool)
    simp only [Kd.d, PyData.leavesShort, PyData.leavesShortAll, Bool.and_true, Bool.and_eq_true, List.all_eq_true, decide_eq_true_eq, S_get]
    exact ⟨fun c hc => Nat.lt_trans (cokNamed c hc) (by decide), fun x hx => Nat.lt_trans (c x hx) (by decide)⟩
  | .fr w, h => by
    simp only [Kd.d, PyData.leavesShort, PyData.leavesShortAll, Bool.and_true, Bool.and_eq_true, List.all_eq_true, decide_eq_true_eq, S_get]
    exact ⟨fun c hc => Nat.lt_trans (cokFree c hc) (by decide), fun x hx => Nat.lt_trans ((name_cok h).1 x hx) (by decide)⟩
  | .to a b, h => by
    simp only [Kd.d, PyData.leavesShort, PyData.leavesShortAll, Bool.and_true, Bool.and_eq_true, List.all_eq_true, decide_eq_true_eq, S_get, a.short h.1, b.short h.2, and_self, and_true]
    exact fun c hc => Nat.lt_trans (cokTo c hc) (by decide)
theorem S_size (w : List Nat) : (S w).cps.size = w.length := by simp [SX.S]
theorem Kd.weight : ∀ k : Kd, k.ok → k.d.weight ≤ 30 * k.sz
  | .nm w, h => by
    have c : w.length ≤ 16 := h.elim (fun h => (name_cok h).2) (fun h => by rw [h]; decide)
    simp only [Kd.d, PyData.weight, PyData.weightAll, S_size, Kd.sz]
    show 5 + 1 + (w.length + 1 + 0) ≤ 30 * 1; omega
  | .fr w, h => by
    have c : w.length ≤ 16 := (name_cok h).2
    simp only [Kd.d, PyData.weight, PyData.weightAll, S_size, Kd.sz]
    show 4 + 1 + (w.length + 1 + 0) ≤ 30 * 1; omega
  | .to a b, h => by
    have := a.weight h.1; have := b.weight h.2
    simp only [Kd.d, PyData.weight, PyData.weightAll, S_size, Kd.sz]
    show 2 + 1 + (a.d.weight + 1 + (b.d.weight + 1 + 0)) ≤ 30 * (a.sz + b.sz + 1); omega
theorem Kd.show_ : ∀ k : Kd, k.d.showable = true
  | .nm w => by simp [Kd.d, PyData.showable, PyData.showableAll]
  | .fr w => by simp [Kd.d, PyData.showable, PyData.showableAll]
  | .to a b => by simp [Kd.d, PyData.showable, PyData.showableAll, a.show_, b.show_]
theorem Kd.shown {k : Kd} (h : k.ok) (z : k.sz ≤ 50000) : k.d.shown.length ≤ 16777216 := by
  have h1 := PyData.shown_le 8 (Nat.le_refl _) k.d (k.short h)
  have h2 := k.weight h
  have h3 : (8 + 2) * k.d.weight ≤ (8 + 2) * (30 * k.sz) := Nat.mul_le_mul_left _ h2
  omega
theorem dep_nodes {κ τ : Type} : ∀ t : Tr κ τ, t.dep ≤ t.nodes
  | .app f a => by
    have := dep_nodes f; have := dep_nodes a; have := f.nodes_pos; have := a.nodes_pos
    show max f.dep a.dep + 1 ≤ f.nodes + a.nodes + 1; omega
  | .lam k b => by have := dep_nodes b; show b.dep + 1 ≤ b.nodes + 1; omega
  | .tip _ => Nat.le_refl _
end K02

/-! The plain law of k02: a tree with a bad row is bad. -/
namespace K02
open PySem L2 TL SX
/-- all is known of a row, at any depth -/
def RowK : PRow → Prop
  | .app => True
  | .lam k => ∃ b, KF k b
  | .tip t => ∀ l, l ≤ 100000 → ∃ b, LF t.d l b ∧ (b = true → ∀ s r, t.d = .tuple (.str (S s) :: r) → s ≠ wAPP ∧ s ≠ wLAM)
def RowB : PRow → Prop
  | .app => False
  | .lam k => KF k false
  | .tip t => ∀ l, l ≤ 100000 → LF t.d l false
theorem RowB.k {r : PRow} (h : RowB r) : RowK r := by
  cases r with
  | app => cases h
  | lam k => exact ⟨false, h⟩
  | tip t => exact fun l hl => ⟨false, h l hl, fun z => by cases z⟩
def AKn (t : PTr) : Prop := ∀ l, l + t.dep ≤ 100000 → ∃ b, AK t l b
def AKb (t : PTr) : Prop := ∀ l, l + t.dep ≤ 100000 → AK t l false
theorem bad_fo : ∀ {c : List PRow}, fok c → (∀ r ∈ c, RowK r) → (∀ t ∈ fo c, AKn t ∧ t.dep ≤ c.length) ∧ ((∃ r ∈ c, RowB r) → ∃ t ∈ fo c, AKb t)
  | [], _, _ => ⟨fun t h => (by cases h), fun ⟨r, h, _⟩ => by cases h⟩
  | r :: c, hf, hk => by
    obtain ⟨h1, h2⟩ := bad_fo hf.2 fun r hr => hk r (List.mem_cons_of_mem _ hr)
    have hr := hk r List.mem_cons_self
    have up : ∀ {x : PTr} {ts : List PTr}, (∀ t ∈ ts, AKn t ∧ t.dep ≤ c.length) → AKn x ∧ x.dep ≤ c.length + 1 → ∀ t ∈ x :: ts, AKn t ∧ t.dep ≤ c.length + 1 := fun {x ts} a b t ht => by
      rcases List.mem_cons.mp ht with rfl | ht
      · exact b
      · exact ⟨(a t ht).1, by have := (a t ht).2; omega⟩
    show (∀ t ∈ push1 r (fo c), AKn t ∧ t.dep ≤ c.length + 1) ∧ _
    have hb : (∃ r' ∈ r :: c, RowB r') → (RowB r ∨ ∃ t ∈ fo c, AKb t) := fun ⟨r', hr', hb⟩ => by
      rcases List.mem_cons.mp hr' with rfl | hr'
      · exact .inl hb
      · exact .inr (h2 ⟨r', hr', hb⟩)
    cases r with
    | app =>
      obtain ⟨f, a, ts, e⟩ := two_of (show 2 ≤ (fo c).length from hf.1)
      show (∀ t ∈ push1 .app (fo c), AKn t ∧ t.dep ≤ c.length + 1) ∧ (_ → ∃ t ∈ push1 .app (fo c), AKb t)
      rw [e] at h1 hb ⊢
      have hf' := h1 f (by simp)
      have ha' := h1 a (by simp)
      refine ⟨up (fun t ht => h1 t (by simp [ht])) ⟨fun l hl => ?_, ?_⟩, fun z => ?_⟩
      · have hl : l + (max f.dep a.dep + 1) ≤ 100000 := hl
        obtain ⟨b, hb1⟩ := hf'.1 l (by omega)
        obtain ⟨d, hd1⟩ := ha'.1 l (by omega)
        exact ⟨_, .app hb1 hd1⟩
      · have := hf'.2
        have := ha'.2
        show max f.dep a.dep + 1 ≤ _
        omega
      · rcases hb z with z | ⟨t, ht, hh⟩
        · cases z
        rcases List.mem_cons.mp ht with rfl | ht
        · refine ⟨.app t a, List.mem_cons_self, fun l hl => ?_⟩
          have hl : l + (max t.dep a.dep + 1) ≤ 100000 := hl
          obtain ⟨d, hd1⟩ := ha'.1 l (by omega)
          exact AK.app (hh l (by omega)) hd1
        · rcases List.mem_cons.mp ht with rfl | ht
          · refine ⟨.app f t, List.mem_cons_self, fun l hl => ?_⟩
            have hl : l + (max f.dep t.dep + 1) ≤ 100000 := hl
            obtain ⟨d, hd1⟩ := hf'.1 l (by omega)
            have := AK.app hd1 (hh l (by omega))
            rwa [Bool.and_false] at this
          · exact ⟨t, List.mem_cons_of_mem _ ht, hh⟩
    | lam k =>
      obtain ⟨x, ts, e⟩ := one_of (show 1 ≤ (fo c).length from hf.1)
      show (∀ t ∈ push1 (.lam k) (fo c), AKn t ∧ t.dep ≤ c.length + 1) ∧ (_ → ∃ t ∈ push1 (.lam k) (fo c), AKb t)
      rw [e] at h1 hb ⊢
      have hx := h1 x (by simp)
      refine ⟨up (fun t ht => h1 t (by simp [ht])) ⟨fun l hl => ?_, ?_⟩, fun z => ?_⟩
      · have hl : l + (x.dep + 1) ≤ 100000 := hl
        obtain ⟨b, hb1⟩ := hr
        obtain ⟨d, hd1⟩ := hx.1 (l + 1) (by omega)
        exact ⟨_, .lam hb1 hd1⟩
      · have := hx.2
        show x.dep + 1 ≤ _
        omega
      · rcases hb z with z | ⟨t, ht, hh⟩
        · refine ⟨.lam k x, List.mem_cons_self, fun l hl => ?_⟩
          have hl : l + (x.dep + 1) ≤ 100000 := hl
          obtain ⟨d, hd1⟩ := hx.1 (l + 1) (by omega)
          exact AK.lam z hd1
        · rcases List.mem_cons.mp ht with rfl | ht
          · refine ⟨.lam k t, List.mem_cons_self, fun l hl => ?_⟩
            have hl : l + (t.dep + 1) ≤ 100000 := hl
            obtain ⟨b, hb1⟩ := hr
            have := AK.lam hb1 (hh (l + 1) (by omega))
            rwa [Bool.and_false] at this
          · exact ⟨t, List.mem_cons_of_mem _ ht, hh⟩
    | tip d =>
      refine ⟨up h1 ⟨fun l hl => ?_, ?_⟩, fun z => ?_⟩
      · have hl : l + 1 ≤ 100000 := hl
        obtain ⟨b, hb1, hb2⟩ := hr l (by omega)
        exact ⟨b, .tip hb1 hb2⟩
      · show 1 ≤ c.length + 1
        omega
      · rcases hb z with z | ⟨t, ht, hh⟩
        · refine ⟨.tip d, List.mem_cons_self, fun l hl => ?_⟩
          have hl : l + 1 ≤ 100000 := hl
          exact .tip (z l (by omega)) fun z => by cases z
        · exact ⟨t, List.mem_cons_of_mem _ ht, hh⟩
/-- a code of one tree with a bad row, asked at its root -/
theorem bad_tree {c : List PRow} {t : PTr} (hf : fok c) (e : fo c = [t]) (hk : ∀ r ∈ c, RowK r) (hb : ∃ r ∈ c, RowB r) (hl : c.length ≤ 5000) : AK t 0 false := by
  obtain ⟨h1, h2⟩ := bad_fo hf hk
  obtain ⟨t', ht', hh⟩ := h2 hb
  rw [e] at ht'
  rw [List.mem_singleton.mp ht'] at hh
  have := (h1 t (by rw [e]; exact List.mem_cons_self)).2
  exact hh 0 (by omega)
/-- good rows are known -/
theorem upR_k {r : G2} (h : r.gok) : RowK (upR r) := by
  cases r with
  | app => trivial
  | lam k => exact ⟨true, GK.kf h⟩
  | tip l =>
    intro n _
    refine ⟨_, Lf.lf h n, fun _ s r e => ?_⟩
    obtain ⟨s', r', e', a, b, _⟩ := lf_tip l
    have e : l.d = .tuple (.str (S s) :: r) := e
    rw [e'] at e
    simp only [PyData.tuple.injEq, List.cons.injEq, PyData.str.injEq] at e
    rw [← SX.S_inj e.1]
    exact ⟨a, b⟩
/-- a code with arms is one whose leaves hold it -/
theorem tip_in {κ τ : Type} {c : List (Rw κ τ)} (h : Vc c 1) : ∃ t, Rw.tip t ∈ c := by
  have : ∀ c : List (Rw κ τ), (∀ t, Rw.tip t ∉ c) → fok c → c = [] := by
    intro c
    induction c with
    | nil => intro _ _; rfl
    | cons r c ih =>
      intro h hf
      have e := ih (fun t ht => h t (List.mem_cons_of_mem _ ht)) hf.2
      subst e
      cases r with
      | app => exact absurd hf.1 (by show ¬ 2 ≤ 0; omega)
      | lam k => exact absurd hf.1 (by show ¬ 1 ≤ 0; omega)
      | tip t => exact absurd List.mem_cons_self (h t)
  apply Classical.byContradiction
  intro z
  have e := this c (fun t ht => z ⟨t, ht⟩) h.1
  subst e
  cases h.2
theorem Vc.one {κ τ : Type} {c : List (Rw κ τ)} (h : Vc c 1) : ∃ t, fo c = [t] := by
  obtain ⟨_, h2⟩ := h
  match hh : fo c, h2 with
  | [t], _ => exact ⟨t, rfl⟩
theorem Vc.lams {κ τ : Type} {c : List (Rw κ τ)} (h : Vc c 1) (k : κ) : ∀ n, Vc (List.replicate n (.lam k) ++ c) 1
  | 0 => h
  | n + 1 => Vc.lam (n := 0) (h.lams k n)
end K02

/-! Displays of data, told at one go. -/
namespace L2
open PySem PySem.Spec PyProof.Rows SX TL
/-- te says d, from every heap that keeps what H0 has -/
def Ev (H0 : Hp) (te : TE) (σ : St) (d : PyData) : Prop := ∀ H Q, Same H0 H → (∀ x H', Same H H' → TD H' x d → Q x H') → te σ H Q
def EvA (H0 : Hp) (tA : TA) (σ : St) (ds : List PyData) : Prop := ∀ H Q, Same H0 H → (∀ xs H', Same H H' → TDs H' xs ds → Q xs H') → tA σ H Q
section
variable {H0 H H' : Hp} {σ : St} {d : PyData} {ds : List PyData} {te : TE} {tA : TA} {x : V} {Q : VK} {K : PySem.W.Frag}
theorem Same.refl' (H : Hp) : Same H H := fun _ _ e => e
theorem Same.fresh {p : Addr} (s : Same H H') (z : H' p = none) : H p = none := by
  cases e : H p with
  | none => rfl
  | some o => rw [s p o e] at z; cases z
theorem ev_str {z : Str} : Ev H0 (tC (.str z)) σ (.str z) := fun H Q s k => w_c (k _ _ (Same.refl' H) (.str z))
theorem ev_int {i : Int} : Ev H0 (tC (.int i)) σ (.int i) := fun H Q s k => w_c (k _ _ (Same.refl' H) (.int i))
theorem ev_neg {i : Int} : Ev H0 (tUn (rU fun n => .int (-n)) (tC (.int i))) σ (.int (-i)) := fun H Q s k => w_un (w_c (w_neg (k _ _ (Same.refl' H) (.int (-i)))))
theorem ev_var {i : Nat} (e : σ[i]? = some (some x)) (t : TD H0 x d) : Ev H0 (tVar i) σ d := fun H Q s k => w_var e (k _ _ (Same.refl' H) (t.tm (Tm.same s)))
theorem eva_nil : EvA H0 tNil σ [] := fun H Q s k => w_nil (k _ _ (Same.refl' H) .nil)
theorem eva_cons (h : Ev H0 te σ d) (j : EvA H0 tA σ ds) : EvA H0 (tCons te tA) σ (d :: ds) := fun H Q s k => w_cons (h H _ s fun x H1 s1 t1 => j H1 _ (s.tr s1) fun xs H2 s2 t2 => k _ _ (s1.tr s2) (.cons (t1.tm (Tm.same s2)) t2))
theorem ev_tup (h : EvA H0 tA σ ds) (hl : ds.length ≤ 4096 := by exact Nat.le_of_ble_eq_true rfl) : Ev H0 (tTup tA) σ (.tuple ds) := fun H Q s k => w_tupN (h H _ s fun xs H1 s1 t1 => t_new t1 (fun p H2 h2 s2 t2 => k _ _ (s1.tr s2) t2) (by rw [t1.len]; exact hl))
theorem ev_lst (h : EvA H tA σ ds) (k : ∀ p H', H p = none → Same H H' → DL H' p ds → Q (.ref p) H') (hl : ds.length ≤ 4096 := by exact Nat.le_of_ble_eq_true rfl) : tLst tA σ H Q :=
  w_lstN (h H _ (Same.refl' H) fun xs H1 s1 t1 => l_new t1 (fun p H2 h2 s2 t2 => k _ _ (s1.fresh h2) (s1.tr s2) t2) (by rw [t1.len]; exact hl))
theorem ev_go (h : Ev H te σ d) (k : ∀ x H', Same H H' → TD H' x d → Q x H') : te σ H Q := h H Q (Same.refl' H) k
end
end L2

/-! Small steps over data, used by several laws. -/
namespace L2
open PySem PySem.Spec PyProof.Rows SX TL
theorem l_truth {K : PySem.W.Frag} {H : Hp} {p : Addr} {ds : List PyData} {F : Bool → Prop} (h : DL H p ds) (k : F (decide (ds ≠ []))) : ∃ k, TruV K (.ref p) H k ∧ F k := by
  obtain ⟨xs, e, t⟩ := h
  refine ⟨_, .inl ⟨xs, SqL.of e, ?_⟩, k⟩
  have := t.len
  cases xs <;> cases ds <;> first | rfl | (cases this; done) | simp
theorem snoc_of {α : Type} {l : List α} (h : l ≠ []) : ∃ as a, l = as ++ [a] := ⟨_, _, (List.dropLast_concat_getLast h).symm⟩
theorem map_ne {α β : Type} {f : α → β} {l : List α} : (decide (l.map f ≠ [])) = decide (l ≠ []) := by cases l <;> rfl
theorem w_un2 {K : PySem.W.Frag} {n i j : Nat} {σ : L2.St} {H : Hp} {q : Addr} {y z : V} {N : L2.St → Hp → Prop} (hn : n = 2) (hq : H q = some (.tup [y, z])) (h : N ((σ.set i (some y)).set j (some z)) H) : gTup K n (gCons (gName i) (gCons (gName j) gNil)) (.ref q) σ H N := by
  subst hn; exact ⟨q, _, rfl, SqT.of hq, rfl, _, _, rfl, _, _, rfl, rfl, h⟩
theorem w_un3 {K : PySem.W.Frag} {n i j k : Nat} {σ : L2.St} {H : Hp} {q : Addr} {x y z : V} {N : L2.St → Hp → Prop} (hn : n = 3) (hq : H q = some (.tup [x, y, z])) (h : N (((σ.set i (some x)).set j (some y)).set k (some z)) H) : gTup K n (gCons (gName i) (gCons (gName j) (gCons (gName k) gNil))) (.ref q) σ H N := by
  subst hn; exact ⟨q, _, rfl, SqT.of hq, rfl, _, _, rfl, _, _, rfl, _, _, rfl, rfl, h⟩
theorem ev_ixL {K : PySem.W.Frag} {H0 : Hp} {σ : L2.St} {i n : Nat} {p : Addr} {ds : List PyData} {d : PyData} (e : σ[i]? = some (some (.ref p))) (h : DL H0 p ds) (g : ds[n]? = some d) : Ev H0 (tOp (rIxL K) (tVar i) (tC (.int (n : Int)))) σ d := fun H Q s k => w_op (w_var e (w_c (l_ix (h.same s) g fun x tx => k _ _ (Same.refl' H) tx)))
end L2

/-! The plain law of k01: typed codes; abstracting, instantiating and putting, on trees and on codes. -/
namespace K01
open PySem L2 TL SX K02
/-- a code whose trees have these kinds, each under these arounds -/
inductive Ty2 : List Gt → List (Kd × List Kd) → Prop
  | nil : Ty2 [] []
  | cons {t : Gt} {k : Kd} {ar : List Kd} {ts : List Gt} {ps : List (Kd × List Kd)} (h : typed t ar = some k) (j : Ty2 ts ps) : Ty2 (t :: ts) ((k, ar) :: ps)
def TF (c : List G2) (ps : List (Kd × List Kd)) : Prop := fok c ∧ Ty2 (fo c) ps
theorem Ty2.len : ∀ {ts : List Gt} {ps : List (Kd × List Kd)}, Ty2 ts ps → ts.length = ps.length
  | _, _, .nil => rfl
  | _, _, .cons _ j => by rw [List.length_cons, List.length_cons, j.len]
theorem TF.vc {c : List G2} {ps : List (Kd × List Kd)} (h : TF c ps) : Vc c ps.length := ⟨h.1, h.2.len⟩
theorem TF.nil : TF [] [] := ⟨trivial, .nil⟩
theorem TF.app {c : List G2} {o k : Kd} {ar : List Kd} {ps : List (Kd × List Kd)} (h : TF c ((.to o k, ar) :: (o, ar) :: ps)) : TF (.app :: c) ((k, ar) :: ps) := by
  obtain ⟨h1, h2⟩ := h
  generalize hfo : fo c = ts at h2
  cases h2 with
  | cons t1 j =>
    cases j with
    | cons t2 j =>
      refine ⟨⟨by rw [hfo]; show 2 ≤ _ + 1 + 1; omega, h1⟩, ?_⟩
      show Ty2 (push1 .app (fo c)) _
      rw [hfo]
      exact .cons (by simp [typed, t1, t2]) j
theorem TF.lam {c : List G2} {k b : Kd} {ar : List Kd} {ps : List (Kd × List Kd)} (h : TF c ((b, k :: ar) :: ps)) : TF (.lam k :: c) ((.to k b, ar) :: ps) := by
  obtain ⟨h1, h2⟩ := h
  generalize hfo : fo c = ts at h2
  cases h2 with
  | cons t1 j =>
    refine ⟨⟨by rw [hfo]; show 1 ≤ _ + 1; omega, h1⟩, ?_⟩
    show Ty2 (push1 (.lam k) (fo c)) _
    rw [hfo]
    exact .cons (by simp [typed, t1]) j
theorem TF.tip {c : List G2} {l : Lf} {k : Kd} {ar : List Kd} {ps : List (Kd × List Kd)} (h : TF c ps) (e : typed (.tip l) ar = some k) : TF (.tip l :: c) ((k, ar) :: ps) :=
  ⟨⟨Nat.zero_le _, h.1⟩, .cons e h.2⟩
/-- a prefix that wants these trees for one tree of kind k0 -/
def PT (k0 : Kd) (c : List G2) (ps : List (Kd × List Kd)) : Prop := ∀ c2, TF c2 ps → TF (c ++ c2) [(k0, [])]
section
variable {k0 o k b : Kd} {c : List G2} {ar : List Kd} {ps : List (Kd × List Kd)} {l : Lf}
theorem PT.nil : PT k0 [] [(k0, [])] := fun c2 h => h
theorem PT.app (h : PT k0 c ((k, ar) :: ps)) : PT k0 (c ++ [.app]) ((.to o k, ar) :: (o, ar) :: ps) := fun c2 h2 => by
  rw [List.append_assoc]; exact h _ h2.app
theorem PT.lam (h : PT k0 c ((.to k b, ar) :: ps)) : PT k0 (c ++ [.lam k]) ((b, k :: ar) :: ps) := fun c2 h2 => by
  rw [List.append_assoc]; exact h _ h2.lam
theorem PT.tip (h : PT k0 c ((k, ar) :: ps)) (e : typed (.tip l) ar = some k) : PT k0 (c ++ [.tip l]) ps := fun c2 h2 => by
  rw [List.append_assoc]; exact h _ (h2.tip e)
theorem PT.done (h : PT k0 c []) : TF c [(k0, [])] := by have := h [] TF.nil; rwa [List.append_nil] at this
theorem TF.one (h : TF c [(k, ar)]) : ∃ t, fok c ∧ fo c = [t] ∧ typed t ar = some k := by
  obtain ⟨h1, h2⟩ := h
  generalize hfo : fo c = ts at h2
  cases h2 with
  | cons t1 j => cases j; exact ⟨_, h1, rfl, t1⟩
end
/-! ### on trees -/
def isV (w : List Nat) (k : Kd) : Lf → Bool
  | .var w' k' => decide (w' = w ∧ k' = k)
  | _ => false
def isB (l : Nat) : Lf → Bool
  | .bnd i => decide (i = l)
  | _ => false
/-- each leaf by what stands for it at its level -/
def subT (g : Nat → Lf → Gt) : Gt → Nat → Gt
  | .app f a, l => .app (subT g f l) (subT g a l)
  | .lam j b, l => .lam j (subT g b (l + 1))
  | .tip x, l => g l x
/-- the same on codes; todo: the levels of the trees to come -/
def subC (f : Nat → Lf → List G2) : List G2 → List Nat → List G2
  | [], _ => []
  | .app :: c, todo => .app :: subC f c (todo.headD 0 :: todo.headD 0 :: todo.tail)
  | .lam k :: c, todo => .lam k :: subC f c ((todo.headD 0 + 1) :: todo.tail)
  | .tip x :: c, todo => f (todo.headD 0) x ++ subC f c todo.tail
/-- the levels of the rows -/
def lvC : List G2 → List Nat → List Nat
  | [], _ => []
  | .app :: c, todo => todo.headD 0 :: lvC c (todo.headD 0 :: todo.headD 0 :: todo.tail)
  | .lam _ :: c, todo => todo.headD 0 :: lvC c ((todo.headD 0 + 1) :: todo.tail)
  | .tip _ :: c, todo => todo.headD 0 :: lvC c todo.tail
/-- one row's part in subC -/
def rowS (f : Nat → Lf → List G2) : G2 → Nat → List G2
  | .tip x, l => f l x
  | r, _ => [r]
theorem lvC_len : ∀ (c : List G2) (todo : List Nat), (lvC c todo).length = c.length
  | [], _ => rfl
  | .app :: c, todo => by show (lvC c _).length + 1 = _; rw [lvC_len c]; rfl
  | .lam _ :: c, todo => by show (lvC c _).length + 1 = _; rw [lvC_len c]; rfl
  | .tip _ :: c, todo => by show (lvC c _).length + 1 = _; rw [lvC_len c]; rfl
theorem subC_rows (f : Nat → Lf → List G2) : ∀ (c : List G2) (todo : List Nat), subC f c todo = (List.zipWith (rowS f) c (lvC c todo)).flatten
  | [], _ => rfl
  | .app :: c, todo => by show Rw.app :: subC f c _ = _; rw [subC_rows f c]; rfl
  | .lam k :: c, todo => by show Rw.lam k :: subC f c _ = _; rw [subC_rows f c]; rfl
  | .tip x :: c, todo => by show f _ x ++ subC f c _ = _; rw [subC_rows f c]; rfl
theorem push1_app {κ τ : Type} {r : Rw κ τ} {ts us : List (Tr κ τ)} (h : r.ar ≤ ts.length) : push1 r (ts ++ us) = push1 r ts ++ us := by
  cases r with
  | app =>
    match ts, h with
    | f :: a :: ts, _ => rfl
    | [_], h => exact absurd h (by show ¬ 2 ≤ 1; omega)
    | [], h => exact absurd h (by show ¬ 2 ≤ 0; omega)
  | lam k =>
    match ts, h with
    | b :: ts, _ => rfl
    | [], h => exact absurd h (by show ¬ 1 ≤ 0; omega)
  | tip t => rfl
theorem fo_append {κ τ : Type} : ∀ {c d : List (Rw κ τ)}, fok c → fo (c ++ d) = fo c ++ fo d
  | [], d, _ => rfl
  | r :: c, d, h => by
    show push1 r (fo (c ++ d)) = push1 r (fo c) ++ fo d
    rw [fo_append h.2, push1_app h.1]
theorem fok_append {κ τ : Type} {c d : List (Rw κ τ)} (h : fok c) (k : fok d) : fok (c ++ d) := (Vc.append (⟨h, rfl⟩ : Vc c _) (⟨k, rfl⟩ : Vc d _)).1
/-- what stands for a leaf is a code of one tree -/
theorem fo_sub {f : Nat → Lf → List G2} {g : Nat → Lf → Gt} (hf : ∀ l x, fok (f l x) ∧ fo (f l x) = [g l x]) : ∀ {c : List G2} {todo : List Nat}, fok c → (fo c).length = todo.length → fok (subC f c todo) ∧ fo (subC f c todo) = List.zipWith (subT g) (fo c) todo
  | [], todo, _, _ => ⟨trivial, by simp [subC, fo]⟩
  | .tip x :: c, todo, h, hl => by
    have hl : (fo c).length + 1 = todo.length := hl
    match todo, hl with
    | l :: todo, hl =>
      have hl : (fo c).length = todo.length := by rw [List.length_cons] at hl; omega
      obtain ⟨i1, i2⟩ := fo_sub hf (todo := todo) h.2 hl
      obtain ⟨a1, a2⟩ := hf l x
      refine ⟨fok_append a1 i1, ?_⟩
      show fo (f l x ++ subC f c todo) = List.zipWith (subT g) (.tip x :: fo c) (l :: todo)
      rw [fo_append a1, a2, i2]; rfl
  | .lam k :: c, todo, h, hl => by
    obtain ⟨b, ts, e⟩ := one_of (show 1 ≤ (fo c).length from h.1)
    have e2 : fo (.lam k :: c) = .lam k b :: ts := by show push1 _ (fo c) = _; rw [e]; rfl
    rw [e2] at hl
    match todo, hl with
    | l :: todo, hl =>
      have hl : (fo c).length = ((l + 1) :: todo).length := by rw [e]; exact hl
      obtain ⟨i1, i2⟩ := fo_sub hf (todo := (l + 1) :: todo) h.2 hl
      rw [e] at i2
      have i2 : fo (subC f c ((l + 1) :: todo)) = subT g b (l + 1) :: List.zipWith (subT g) ts todo := i2
      refine ⟨⟨by show 1 ≤ (fo (subC f c ((l + 1) :: todo))).length; rw [i2, List.length_cons]; omega, i1⟩, ?_⟩
      show push1 _ (fo (subC f c ((l + 1) :: todo))) = _
      rw [i2, e2]; rfl
  | .app :: c, todo, h, hl => by
    obtain ⟨x, y, ts, e⟩ := two_of (show 2 ≤ (fo c).length from h.1)
    have e2 : fo (.app :: c) = .app x y :: ts := by show push1 _ (fo c) = _; rw [e]; rfl
    rw [e2] at hl
    match todo, hl with
    | l :: todo, hl =>
      have hl : (fo c).length = (l :: l :: todo).length := by rw [e]; simp only [List.length_cons] at hl ⊢; omega
      obtain ⟨i1, i2⟩ := fo_sub hf (todo := l :: l :: todo) h.2 hl
      rw [e] at i2
      have i2 : fo (subC f c (l :: l :: todo)) = subT g x l :: subT g y l :: List.zipWith (subT g) ts todo := i2
      refine ⟨⟨by show 2 ≤ (fo (subC f c (l :: l :: todo))).length; rw [i2, List.length_cons, List.length_cons]; omega, i1⟩, ?_⟩
      show push1 _ (fo (subC f c (l :: l :: todo))) = _
      rw [i2, e2]; rfl
theorem fo_sub1 {f : Nat → Lf → List G2} {g : Nat → Lf → Gt} (hf : ∀ l x, fok (f l x) ∧ fo (f l x) = [g l x]) {c : List G2} {t : Gt} (h : fok c) (e : fo c = [t]) : fok (subC f c [0]) ∧ fo (subC f c [0]) = [subT g t 0] := by
  obtain ⟨a, b⟩ := fo_sub hf (todo := [0]) h (by rw [e]; rfl)
  rw [e] at b
  exact ⟨a, b⟩
/-- as many rows as nodes -/
theorem fo_nodes {κ τ : Type} : ∀ {c : List (Rw κ τ)}, fok c → ((fo c).map Tr.nodes).sum = c.length
  | [], _ => rfl
  | .tip x :: c, h => by
    show 1 + ((fo c).map Tr.nodes).sum = c.length + 1
    rw [fo_nodes h.2]; omega
  | .lam k :: c, h => by
    have ih := fo_nodes h.2
    obtain ⟨b, ts, e⟩ := one_of (show 1 ≤ (fo c).length from h.1)
    show ((push1 _ (fo c)).map Tr.nodes).sum = c.length + 1
    rw [e] at ih ⊢
    show b.nodes + 1 + (ts.map Tr.nodes).sum = _
    have ih : b.nodes + (ts.map Tr.nodes).sum = c.length := ih
    omega
  | .app :: c, h => by
    have ih := fo_nodes h.2
    obtain ⟨x, y, ts, e⟩ := two_of (show 2 ≤ (fo c).length from h.1)
    show ((push1 _ (fo c)).map Tr.nodes).sum = c.length + 1
    rw [e] at ih ⊢
    show x.nodes + y.nodes + 1 + (ts.map Tr.nodes).sum = _
    have ih : x.nodes + (y.nodes + (ts.map Tr.nodes).sum) = c.length := ih
    omega
theorem fo_nodes1 {κ τ : Type} {c : List (Rw κ τ)} {t : Tr κ τ} (h : fok c) (e : fo c = [t]) : t.nodes = c.length := by
  have := fo_nodes h
  rw [e] at this
  have this : t.nodes + 0 = c.length := this
  omega
/-! ### the four -/
def absL (w : List Nat) (k : Kd) (l : Nat) (x : Lf) : Gt := if isV w k x then .tip (.bnd l) else .tip x
def insL (v : Gt) (l : Nat) (x : Lf) : Gt := if isB l x then v else .tip x
abbrev Tb (α : Type) := List Nat → Option α
def putL (tb : Tb (Kd × Gt)) (_ : Nat) : Lf → Gt
  | .var w k => match tb w with
    | some (k', v) => if k' = k then v else .tip (.var w k)
    | none => .tip (.var w k)
  | x => .tip x
def absC (w : List Nat) (k : Kd) (l : Nat) (x : Lf) : List G2 := if isV w k x then [.tip (.bnd l)] else [.tip x]
def insC (v : List G2) (l : Nat) (x : Lf) : List G2 := if isB l x then v else [.tip x]
def putC (tb : Tb (Kd × List G2)) (_ : Nat) : Lf → List G2
  | .var w k => match tb w with
    | some (k', v) => if k' = k then v else [.tip (.var w k)]
    | none => [.tip (.var w k)]
  | x => [.tip x]
theorem one_tip (x : Lf) : fok ([.tip x] : List G2) ∧ fo ([.tip x] : List G2) = [.tip x] := ⟨⟨Nat.zero_le _, trivial⟩, rfl⟩
theorem absC_ok (w : List Nat) (k : Kd) (l : Nat) (x : Lf) : fok (absC w k l x) ∧ fo (absC w k l x) = [absL w k l x] := by
  unfold absC absL
  cases isV w k x <;> exact one_tip _
theorem insC_ok {v : List G2} {t : Gt} (h : fok v) (e : fo v = [t]) (l : Nat) (x : Lf) : fok (insC v l x) ∧ fo (insC v l x) = [insL t l x] := by
  unfold insC insL
  cases isB l x
  · exact one_tip _
  · exact ⟨h, e⟩
theorem putC_ok {tb : Tb (Kd × List G2)} {tt : Tb (Kd × Gt)} (h : ∀ w, (tb w = none ∧ tt w = none) ∨ ∃ k c t, tb w = some (k, c) ∧ tt w = some (k, t) ∧ fok c ∧ fo c = [t]) (l : Nat) (x : Lf) : fok (putC tb l x) ∧ fo (putC tb l x) = [putL tt l x] := by
  cases x with
  | var w k =>
    rcases h w with ⟨a, b⟩ | ⟨k', c, t, a, b, d, e⟩
    · simp only [putC, putL, a, b]; exact one_tip _
    · simp only [putC, putL, a, b]
      by_cases z : k' = k
      · rw [if_pos z, if_pos z]; exact ⟨d, e⟩
      · rw [if_neg z, if_neg z]; exact one_tip _
  | cst w k => exact one_tip _
  | bnd i => exact one_tip _
/-! ### instantiate undoes abstract -/
theorem isV_eq {w : List Nat} {k : Kd} {x : Lf} (h : isV w k x = true) : x = .var w k := by
  cases x with
  | var w' k' => obtain ⟨a, b⟩ := of_decide_eq_true h; rw [a, b]
  | cst _ _ => cases h
  | bnd _ => cases h
theorem isB_eq {l : Nat} {x : Lf} (h : isB l x = true) : x = .bnd l := by
  cases x with
  | bnd i => have := of_decide_eq_true h; rw [this]
  | cst _ _ => cases h
  | var _ _ => cases h
theorem ins_abs (w : List Nat) (k : Kd) : ∀ (t : Gt) (l : Nat), inScope t l = true → subT (insL (.tip (.var w k))) (subT (absL w k) t l) l = t
  | .app f a, l, h => by
    have h : inScope f l = true ∧ inScope a l = true := by simpa [inScope] using h
    show Tr.app _ _ = _
    rw [ins_abs w k f l h.1, ins_abs w k a l h.2]
  | .lam j b, l, h => by
    show Tr.lam j _ = _
    rw [ins_abs w k b (l + 1) h]
  | .tip x, l, h => by
    show subT _ (absL w k l x) l = _
    unfold absL
    cases hv : isV w k x with
    | true =>
      rw [isV_eq hv]
      show insL _ l (.bnd l) = _
      unfold insL
      rw [if_pos (show isB l (.bnd l) = true from decide_eq_true rfl)]
    | false =>
      show insL _ l x = _
      unfold insL
      rw [if_neg (fun z => by
        rw [isB_eq z] at h
        have : decide (l < l) = true := h
        have := of_decide_eq_true this
        omega)]
/-- a name that does not occur -/
def notIn (w : List Nat) : Gt → Prop
  | .app f a => notIn w f ∧ notIn w a
  | .lam _ b => notIn w b
  | .tip (.var v _) => v ≠ w
  | .tip _ => True
theorem abs_ins (w v : List Nat) (k : Kd) : ∀ (t : Gt) (l : Nat), inScope t l = true → notIn v t → subT (absL v k) (subT (insL (.tip (.var v k))) (subT (absL w k) t l) l) l = subT (absL w k) t l
  | .app f a, l, h, n => by
    have h : inScope f l = true ∧ inScope a l = true := by simpa [inScope] using h
    show Tr.app _ _ = Tr.app _ _
    rw [abs_ins w v k f l h.1 n.1, abs_ins w v k a l h.2 n.2]
  | .lam j b, l, h, n => by
    show Tr.lam j _ = Tr.lam j _
    rw [abs_ins w v k b (l + 1) h n]
  | .tip x, l, h, n => by
    show subT _ (subT _ (absL w k l x) l) l = absL w k l x
    unfold absL
    cases hv : isV w k x with
    | true =>
      show subT (absL v k) (insL _ l (.bnd l)) l = _
      unfold insL
      rw [if_pos (show isB l (.bnd l) = true from decide_eq_true rfl)]
      show absL v k l (.var v k) = _
      unfold absL
      rw [if_pos (show isV v k (.var v k) = true from decide_eq_true ⟨rfl, rfl⟩)]
      rfl
    | false =>
      show subT (absL v k) (insL _ l x) l = _
      unfold insL
      rw [if_neg (fun z => by
        rw [isB_eq z] at h
        have : decide (l < l) = true := h
        have := of_decide_eq_true this
        omega)]
      show absL v k l x = _
      unfold absL
      rw [if_neg (fun z => by
        rw [isV_eq z] at n
        exact n rfl)]
      rfl
end K01

/-! The plain law of k01: the texts of trees are short. -/
namespace K01
open PySem L2 TL SX K02
/-- small indexes -/
def smB : Gt → Prop
  | .app f a => smB f ∧ smB a
  | .lam _ b => smB b
  | .tip (.bnd i) => i ≤ 1000
  | .tip _ => True
theorem smB_scope : ∀ (g : Gt) (l : Nat), inScope g l = true → l + g.dep ≤ 1000 → smB g
  | .app f a, l, h, z => by
    have h : inScope f l = true ∧ inScope a l = true := by simpa [inScope] using h
    have z : l + (max f.dep a.dep + 1) ≤ 1000 := z
    exact ⟨smB_scope f l h.1 (by omega), smB_scope a l h.2 (by omega)⟩
  | .lam j b, l, h, z => smB_scope b (l + 1) h (by have z : l + (b.dep + 1) ≤ 1000 := z; omega)
  | .tip (.bnd i), l, h, z => by
    have h : decide (i < l) = true := h
    have := of_decide_eq_true h
    show i ≤ 1000
    omega
  | .tip (.var _ _), _, _, _ => trivial
  | .tip (.cst _ _), _, _, _ => trivial
theorem smB_sub {f : Nat → Lf → Gt} (D : Nat) (hf : ∀ l x, l ≤ D → smB (.tip x) → smB (f l x)) : ∀ (g : Gt) (l : Nat), smB g → l + g.dep ≤ D + 1 → smB (subT f g l)
  | .app a b, l, h, z => by
    have z : l + (max a.dep b.dep + 1) ≤ D + 1 := z
    exact ⟨smB_sub D hf a l h.1 (by omega), smB_sub D hf b l h.2 (by omega)⟩
  | .lam j b, l, h, z => smB_sub D hf b (l + 1) h (by have z : l + (b.dep + 1) ≤ D + 1 := z; omega)
  | .tip x, l, h, z => hf l x (by have z : l + 1 ≤ D + 1 := z; omega) h
theorem lvs {w : List Nat} (h : Cok w) : (PyData.str (S w)).leavesShort 13 = true := by
  simp only [PyData.leavesShort, S_get, List.all_eq_true, decide_eq_true_eq]
  exact fun c hc => Nat.lt_trans (h c hc) (by decide)
theorem ls2 (a b : PyData) (h : a.leavesShort 13 = true) (k : b.leavesShort 13 = true) : (PyData.tuple [a, b]).leavesShort 13 = true := by
  simp only [PyData.leavesShort, PyData.leavesShortAll, h, k, Bool.and_self]
theorem ls3 (a b c : PyData) (h : a.leavesShort 13 = true) (k : b.leavesShort 13 = true) (j : c.leavesShort 13 = true) : (PyData.tuple [a, b, c]).leavesShort 13 = true := by
  simp only [PyData.leavesShort, PyData.leavesShortAll, h, k, j, Bool.and_self]
theorem sh2 (a b : PyData) (h : a.showable = true) (k : b.showable = true) : (PyData.tuple [a, b]).showable = true := by
  simp only [PyData.showable, PyData.showableAll, h, k, Bool.and_self]
theorem sh3 (a b c : PyData) (h : a.showable = true) (k : b.showable = true) (j : c.showable = true) : (PyData.tuple [a, b, c]).showable = true := by
  simp only [PyData.showable, PyData.showableAll, h, k, j, Bool.and_self]
theorem shS (z : Str) : (PyData.str z).showable = true := by simp only [PyData.showable]
theorem wt2 (a b : PyData) : (PyData.tuple [a, b]).weight = a.weight + 1 + (b.weight + 1 + 0) := by simp only [PyData.weight, PyData.weightAll]
theorem wt3 (a b c : PyData) : (PyData.tuple [a, b, c]).weight = a.weight + 1 + (b.weight + 1 + (c.weight + 1 + 0)) := by simp only [PyData.weight, PyData.weightAll]
theorem wtS (w : List Nat) : (PyData.str (S w)).weight = w.length := by
  simp only [PyData.weight]
  exact S_size w
theorem lvI {i : Nat} (h : i ≤ 1000) : (PyData.int (i : Int)).leavesShort 13 = true ∧ (PyData.int (i : Int)).showable = true ∧ (PyData.int (i : Int)).weight ≤ 100 := by
  have h2 := PyData.shown_int_le (i := (i : Int)) (Nat.lt_of_le_of_lt (show (i : Int).natAbs ≤ 1000 by omega) (by decide))
  have hl : (i : Int).natAbs.log2 < 10 := by
    by_cases z : (i : Int).natAbs = 0
    · rw [z]; decide
    · exact (Nat.log2_lt z).mpr (Nat.lt_of_le_of_lt (show (i : Int).natAbs ≤ 1000 by omega) (show 1000 < 2 ^ 10 by decide))
  refine ⟨by simp only [PyData.leavesShort, decide_eq_true_eq]; exact h2, ?_, ?_⟩
  · simp only [PyData.showable, decide_eq_true_eq]; omega
  · simp only [PyData.weight]
    show (if _ then 0 else _) ≤ 100
    split
    · exact Nat.zero_le _
    · exact Nat.le_trans (Nat.succ_le_of_lt hl) (by decide)
theorem kd_short : ∀ k : Kd, k.ok → k.d.leavesShort 13 = true
  | .nm w, h => ls2 _ _ (lvs cokNamed) (lvs (h.elim (fun h => (name_cok h).1) (fun h => by rw [h]; exact cokBool)))
  | .fr w, h => ls2 _ _ (lvs cokFree) (lvs (name_cok h).1)
  | .to a b, h => ls3 _ _ _ (lvs cokTo) (kd_short a h.1) (kd_short b h.2)
theorem kd_weight : ∀ k : Kd, k.ok → k.d.weight ≤ 14 * k.sz + 9
  | .nm w, h => by
    have c : w.length ≤ 16 := h.elim (fun h => (name_cok h).2) (fun h => by rw [h]; decide)
    show (PyData.tuple [.str (S wNAMED), .str (S w)]).weight ≤ 14 * 1 + 9
    rw [wt2, wtS, wtS]
    show 5 + 1 + _ ≤ _; omega
  | .fr w, h => by
    have c : w.length ≤ 16 := (name_cok h).2
    show (PyData.tuple [.str (S wFREE), .str (S w)]).weight ≤ 14 * 1 + 9
    rw [wt2, wtS, wtS]
    show 4 + 1 + _ ≤ _; omega
  | .to a b, h => by
    have := kd_weight a h.1; have := kd_weight b h.2
    show (PyData.tuple [.str (S wTO), a.d, b.d]).weight ≤ 14 * (a.sz + b.sz + 1) + 9
    rw [wt3, wtS]
    show 2 + 1 + _ ≤ _; omega
theorem gk_weight {k : Kd} (h : GK k) : k.d.weight ≤ 1409 := by have := kd_weight k h.1; have := h.2; omega
theorem lg_cok {w : List Nat} (h : isName w = true ∨ w ∈ LOGIC) : Cok w ∧ w.length ≤ 16 := by
  have lg : ∀ w ∈ LOGIC, (∀ c ∈ w, c < 256) ∧ w.length ≤ 16 := by decide
  exact h.elim (fun z => name_cok z) (fun z => lg w z)
theorem c_var : Cok wVAR := by show ∀ c ∈ wVAR, c < 256; decide
theorem c_const : Cok wCONST := by show ∀ c ∈ wCONST, c < 256; decide
theorem c_bound : Cok wBOUND := by show ∀ c ∈ wBOUND, c < 256; decide
theorem c_app : Cok wAPP := by show ∀ c ∈ wAPP, c < 256; decide
theorem c_lam : Cok wLAM := by show ∀ c ∈ wLAM, c < 256; decide
theorem tr_short : ∀ {g : Gt}, g.gok → smB g → (upT g).d.leavesShort 13 = true ∧ (upT g).d.showable = true ∧ (upT g).d.weight ≤ 1500 * g.nodes
  | .app f a, h, z => by
    obtain ⟨f1, f2, f3⟩ := tr_short h.1 z.1
    obtain ⟨a1, a2, a3⟩ := tr_short h.2 z.2
    refine ⟨ls3 _ _ _ (lvs c_app) f1 a1, sh3 _ _ _ (shS _) f2 a2, ?_⟩
    show (PyData.tuple [.str (S wAPP), (upT f).d, (upT a).d]).weight ≤ 1500 * (f.nodes + a.nodes + 1)
    rw [wt3, wtS]
    show 3 + 1 + _ ≤ _; omega
  | .lam k b, h, z => by
    obtain ⟨b1, b2, b3⟩ := tr_short h.2 z
    have hk := gk_weight h.1
    refine ⟨ls3 _ _ _ (lvs c_lam) (kd_short k h.1.1) b1, sh3 _ _ _ (shS _) k.show_ b2, ?_⟩
    show (PyData.tuple [.str (S wLAM), k.d, (upT b).d]).weight ≤ 1500 * (b.nodes + 1)
    rw [wt3, wtS]
    show 3 + 1 + _ ≤ _; omega
  | .tip (.bnd i), h, z => by
    obtain ⟨i1, i2, i3⟩ := lvI z
    refine ⟨ls2 _ _ (lvs c_bound) i1, sh2 _ _ (shS _) i2, ?_⟩
    show (PyData.tuple [.str (S wBOUND), .int (i : Int)]).weight ≤ 1500 * 1
    rw [wt2, wtS]
    show 5 + 1 + _ ≤ _; omega
  | .tip (.var w k), h, z => by
    have hk := gk_weight h.2
    have hw := (name_cok h.1).2
    refine ⟨ls3 _ _ _ (lvs c_var) (lvs (name_cok h.1).1) (kd_short k h.2.1), sh3 _ _ _ (shS _) (shS _) k.show_, ?_⟩
    show (PyData.tuple [.str (S wVAR), .str (S w), k.d]).weight ≤ 1500 * 1
    rw [wt3, wtS, wtS]
    show 3 + 1 + _ ≤ _; omega
  | .tip (.cst w k), h, z => by
    have hk := gk_weight h.2
    have hw := lg_cok h.1
    refine ⟨ls3 _ _ _ (lvs c_const) (lvs hw.1) (kd_short k h.2.1), sh3 _ _ _ (shS _) (shS _) k.show_, ?_⟩
    show (PyData.tuple [.str (S wCONST), .str (S w), k.d]).weight ≤ 1500 * 1
    rw [wt3, wtS, wtS]
    show 5 + 1 + _ ≤ _; omega
theorem eqv_self : ∀ g : Gt, PyData.eqv (upT g).d (upT g).d = true
  | .app f a => by
    show PyData.eqv (.tuple [.str (S wAPP), (upT f).d, (upT a).d]) (.tuple [.str (S wAPP), (upT f).d, (upT a).d]) = true
    simp [PyData.eqv, PyData.eqvAll, eqv_self f, eqv_self a]
  | .lam k b => by
    show PyData.eqv (.tuple [.str (S wLAM), k.d, (upT b).d]) (.tuple [.str (S wLAM), k.d, (upT b).d]) = true
    simp [PyData.eqv, PyData.eqvAll, eqv_self b, Kd.eqv]
  | .tip (.bnd i) => by
    show PyData.eqv (.tuple [.str (S wBOUND), .int (i : Int)]) (.tuple [.str (S wBOUND), .int (i : Int)]) = true
    simp [PyData.eqv, PyData.eqvAll]
  | .tip (.var w k) => by
    show PyData.eqv (.tuple [.str (S wVAR), .str (S w), k.d]) (.tuple [.str (S wVAR), .str (S w), k.d]) = true
    simp [PyData.eqv, PyData.eqvAll, Kd.eqv]
  | .tip (.cst w k) => by
    show PyData.eqv (.tuple [.str (S wCONST), .str (S w), k.d]) (.tuple [.str (S wCONST), .str (S w), k.d]) = true
    simp [PyData.eqv, PyData.eqvAll, Kd.eqv]
theorem tr_shown {g : Gt} (h : g.gok) (z : smB g) (n : g.nodes ≤ 700) : (upT g).d.shown.length ≤ 16777216 := by
  obtain ⟨h1, h2, h3⟩ := tr_short h z
  have := PyData.shown_le 13 (by decide) (upT g).d h1
  omega
end K01

/-! The plain law of k01: what substituting keeps. -/
namespace K01
open PySem L2 TL SX K02
theorem gok_sub {f : Nat → Lf → Gt} (hf : ∀ l x, Lf.ok x → (f l x).gok) : ∀ (g : Gt) (l : Nat), g.gok → (subT f g l).gok
  | .app a b, l, h => ⟨gok_sub hf a l h.1, gok_sub hf b l h.2⟩
  | .lam j b, l, h => ⟨h.1, gok_sub hf b (l + 1) h.2⟩
  | .tip x, l, h => hf l x h
theorem dep_sub {f : Nat → Lf → Gt} {D : Nat} (hf : ∀ l x, (f l x).dep ≤ D + 1) : ∀ (g : Gt) (l : Nat), (subT f g l).dep ≤ g.dep + D
  | .app a b, l => by
    have := dep_sub hf a l; have := dep_sub hf b l
    show max (subT f a l).dep (subT f b l).dep + 1 ≤ max a.dep b.dep + 1 + D
    omega
  | .lam j b, l => by
    have := dep_sub hf b (l + 1)
    show (subT f b (l + 1)).dep + 1 ≤ b.dep + 1 + D
    omega
  | .tip x, l => by
    have := hf l x
    show (f l x).dep ≤ 1 + D
    omega
theorem gok_subC {f : Nat → Lf → List G2} (hf : ∀ l x, Lf.ok x → ∀ r ∈ f l x, r.gok) : ∀ {c : List G2} {todo : List Nat}, (∀ r ∈ c, r.gok) → ∀ r ∈ subC f c todo, r.gok
  | [], _, _, r, hr => by cases hr
  | .app :: c, todo, h, r, hr => by
    rcases List.mem_cons.mp hr with rfl | hr
    · trivial
    · exact gok_subC hf (fun r hr => h r (List.mem_cons_of_mem _ hr)) r hr
  | .lam k :: c, todo, h, r, hr => by
    rcases List.mem_cons.mp hr with rfl | hr
    · exact h (.lam k) List.mem_cons_self
    · exact gok_subC hf (fun r hr => h r (List.mem_cons_of_mem _ hr)) r hr
  | .tip x :: c, todo, h, r, hr => by
    rcases List.mem_append.mp hr with hr | hr
    · exact hf _ x (h (.tip x) List.mem_cons_self) r hr
    · exact gok_subC hf (fun r hr => h r (List.mem_cons_of_mem _ hr)) r hr
theorem len_subC {f : Nat → Lf → List G2} {m : Nat} (hm : 1 ≤ m) (hf : ∀ l x, (f l x).length ≤ m) : ∀ (c : List G2) (todo : List Nat), (subC f c todo).length ≤ c.length * m
  | [], _ => Nat.zero_le _
  | .app :: c, todo => by
    have := len_subC hm hf c (todo.headD 0 :: todo.headD 0 :: todo.tail)
    show (subC f c _).length + 1 ≤ (c.length + 1) * m
    rw [Nat.succ_mul]; omega
  | .lam k :: c, todo => by
    have := len_subC hm hf c ((todo.headD 0 + 1) :: todo.tail)
    show (subC f c _).length + 1 ≤ (c.length + 1) * m
    rw [Nat.succ_mul]; omega
  | .tip x :: c, todo => by
    have := len_subC hm hf c todo.tail
    have := hf (todo.headD 0) x
    show (f _ x ++ subC f c _).length ≤ (c.length + 1) * m
    rw [List.length_append, Nat.succ_mul]; omega
theorem one_subC {f : Nat → Lf → List G2} (hf : ∀ l x, (f l x).length = 1) : ∀ (c : List G2) (todo : List Nat), (subC f c todo).length = c.length
  | [], _ => rfl
  | .app :: c, todo => by show (subC f c _).length + 1 = c.length + 1; rw [one_subC hf c]
  | .lam k :: c, todo => by show (subC f c _).length + 1 = c.length + 1; rw [one_subC hf c]
  | .tip x :: c, todo => by show (f _ x ++ subC f c _).length = c.length + 1; rw [List.length_append, hf, one_subC hf c]; omega
section
variable {w : List Nat} {k : Kd} {l : Nat} {x : Lf} {v : Gt} {vc : List G2}
theorem absL_gok (h : x.ok) : (absL w k l x).gok := by unfold absL; cases isV w k x; exact h; trivial
theorem absL_dep : (absL w k l x).dep ≤ 0 + 1 := by unfold absL; cases isV w k x <;> exact Nat.le_refl _
theorem absL_sm (h : l ≤ 1000) (z : smB (.tip x)) : smB (absL w k l x) := by unfold absL; cases isV w k x; exact z; exact h
theorem absC_gok (h : x.ok) : ∀ r ∈ absC w k l x, r.gok := by
  unfold absC
  cases isV w k x
  · exact fun r hr => by rw [List.mem_singleton.mp hr]; exact h
  · exact fun r hr => by rw [List.mem_singleton.mp hr]; trivial
theorem absC_len : (absC w k l x).length = 1 := by unfold absC; cases isV w k x <;> rfl
theorem insL_gok (hv : v.gok) (h : x.ok) : (insL v l x).gok := by unfold insL; cases isB l x; exact h; exact hv
theorem insL_dep : (insL v l x).dep ≤ (v.dep - 1) + 1 := by
  have := v.dep_pos
  unfold insL
  cases isB l x
  · show 1 ≤ _; omega
  · show v.dep ≤ _; omega
theorem insL_sm (hv : smB v) (z : smB (.tip x)) : smB (insL v l x) := by unfold insL; cases isB l x; exact z; exact hv
theorem insC_gok (hv : ∀ r ∈ vc, r.gok) (h : x.ok) : ∀ r ∈ insC vc l x, r.gok := by
  unfold insC
  cases isB l x
  · exact fun r hr => by rw [List.mem_singleton.mp hr]; exact h
  · exact hv
theorem insC_len {m : Nat} (hm : 1 ≤ m) (hv : vc.length ≤ m) : (insC vc l x).length ≤ m := by unfold insC; cases isB l x; exact hm; exact hv
end
end K01

/-! The plain law of k01: the leaves of a tree are the leaves of its code. -/
namespace K01
open PySem L2 TL SX K02
def lvs1 : Gt → List Lf
  | .app f a => lvs1 f ++ lvs1 a
  | .lam _ b => lvs1 b
  | .tip x => [x]
def tipsC : List G2 → List Lf
  | [] => []
  | .tip x :: c => x :: tipsC c
  | .app :: c => tipsC c
  | .lam _ :: c => tipsC c
theorem fo_leaves : ∀ {c : List G2}, fok c → ((fo c).map lvs1).flatten = tipsC c
  | [], _ => rfl
  | .tip x :: c, h => by
    show [x] ++ ((fo c).map lvs1).flatten = x :: tipsC c
    rw [fo_leaves h.2]; rfl
  | .lam k :: c, h => by
    have ih := fo_leaves h.2
    obtain ⟨b, ts, e⟩ := one_of (show 1 ≤ (fo c).length from h.1)
    show ((push1 _ (fo c)).map lvs1).flatten = tipsC c
    rw [e] at ih ⊢
    exact ih
  | .app :: c, h => by
    have ih := fo_leaves h.2
    obtain ⟨x, y, ts, e⟩ := two_of (show 2 ≤ (fo c).length from h.1)
    show ((push1 _ (fo c)).map lvs1).flatten = tipsC c
    rw [e] at ih ⊢
    show (lvs1 x ++ lvs1 y) ++ (ts.map lvs1).flatten = tipsC c
    have ih : lvs1 x ++ (lvs1 y ++ (ts.map lvs1).flatten) = tipsC c := ih
    rw [List.append_assoc]; exact ih
theorem fo_leaves1 {c : List G2} {t : Gt} (h : fok c) (e : fo c = [t]) : lvs1 t = tipsC c := by
  have := fo_leaves h
  rw [e] at this
  have this : lvs1 t ++ [] = tipsC c := this
  rwa [List.append_nil] at this
end K01

/-! Dicts copied and compared, defs with a star parameter: rules and steps. -/
namespace L2
open PySem PySem.Spec PyProof.Rows SX TL
section
variable {X : Cx}
/-- dict(d) -/
def rDictC : List V → Hp → VK → Prop := fun xs H Q => ∃ (a : Addr) (kvs : List (Key × V)), xs = [.ref a] ∧ H a = some (.dK kvs) ∧ ∀ p, H p = none → Q (.ref p) (upd H p (.dK kvs))
theorem call_dictC : CallR X (.type "dict") rDictC := by
  intro pins s σ H xs us Q I r h
  obtain ⟨a, kvs, rfl, ha, q⟩ := h
  obtain ⟨u, rfl, ru⟩ := r.one
  cases ru
  exact d_copyOf I (.inl ha) fun p s' hp I' => ⟨.ref p, _, I', rfl, q p hp⟩
theorem eqAt_same2 {A : Around} {s : Shared} {v : V} {u u' : Value} (r : RelV v u) (r' : RelV v u') (f : flatB v = true ∨ ∃ a, v = .ref a) : SeqAt.EqAt A s u u' true := by
  rcases f with f | ⟨a, rfl⟩
  · exact eqAt_same r r' f
  · cases (show u = Value.ref a from r); cases (show u' = Value.ref a from r'); exact SeqAt.EqAt.same _
theorem hits_all2 {κ : Type} [DecidableEq κ] {A : Around} {s : Shared} {kvs : List (κ × V)} {vb : List (κ × Value)} (rb : KV kvs vb) {ks : List (κ × V)} {va : List (κ × Value)} (ra : KV ks va) :
    (∀ p ∈ ks, valV kvs p.1 = some p.2 ∧ (flatB p.2 = true ∨ ∃ a, p.2 = .ref a)) → PySem.W.KeqHits A s vb va true := by
  unfold KV at ra
  induction ra with
  | nil => intro _; exact .nil
  | @cons p q ps qs h t ih =>
    intro hp
    obtain ⟨h1, h2⟩ := h
    obtain ⟨e, f⟩ := hp p List.mem_cons_self
    have rr : RelO (some p.2) (valueAt vb p.1) := by rw [← e]; exact rb.val p.1
    obtain ⟨y, hy, ry⟩ := rr.some_of
    obtain ⟨k, v⟩ := q
    have h1' : p.1 = k := h1
    rw [h1'] at hy
    show PySem.W.KeqHits A s vb ((k, v) :: qs) (true && true)
    exact .hit hy (eqAt_same2 h2 ry f) (ih fun p' hm => hp p' (List.mem_cons_of_mem _ hm))
/-- == of a dict and its copy -/
def SameD (x y : V) (H : Hp) : Prop := ∃ (a b : Addr) (kvs : List (Key × V)), x = .ref a ∧ y = .ref b ∧ H a = some (.dK kvs) ∧ H b = some (.dK kvs) ∧ ∀ p ∈ kvs, flatB p.2 = true ∨ ∃ a, p.2 = .ref a
def rEqDC : R2 := fun x y H Q => SameD x y H ∧ Q (.bl true) H
def rNeDC : R2 := fun x y H Q => SameD x y H ∧ Q (.bl false) H
theorem op_eqDC (hu : X.A.units < cLine) : OpR X (compareOp .Eq) rEqDC := by
  intro pins s σ H x y v u Q I rx ry h
  obtain ⟨⟨a, b, kvs, rfl, rfl, ea, eb, fl⟩, q⟩ := h
  obtain rfl : v = Value.ref a := rx
  obtain rfl : u = Value.ref b := ry
  obtain ⟨_, ya, va, ra, da⟩ := (show ObjOk X.prog X.w H s.heap a (.dK kvs) from I.hok a _ ea)
  obtain ⟨_, yb, vb, rb, db⟩ := (show ObjOk X.prog X.w H s.heap b (.dK kvs) from I.hok b _ eb)
  have hl : va.length = vb.length := ra.length.symm.trans rb.length
  have nd : (kvs.map (·.1)).Nodup := by
    obtain ⟨_, _, _, _, _, _, _, _, nd⟩ := da
    rw [ra.keys]; exact nd
  exact PySem.W.keq_eq (knd := mixKind X.prog X.w) (r := true) ya yb da db hu (fun _ => hits_all2 rb ra fun p hp => ⟨val_nodup nd p hp, fl p hp⟩) (fin_bl I q (by simp [hl]))
theorem op_neDC (hu : X.A.units < cLine) : OpR X (compareOp .NotEq) rNeDC := by
  intro pins s σ H x y v u Q I rx ry h
  obtain ⟨⟨a, b, kvs, rfl, rfl, ea, eb, fl⟩, q⟩ := h
  obtain rfl : v = Value.ref a := rx
  obtain rfl : u = Value.ref b := ry
  obtain ⟨_, ya, va, ra, da⟩ := (show ObjOk X.prog X.w H s.heap a (.dK kvs) from I.hok a _ ea)
  obtain ⟨_, yb, vb, rb, db⟩ := (show ObjOk X.prog X.w H s.heap b (.dK kvs) from I.hok b _ eb)
  have hl : va.length = vb.length := ra.length.symm.trans rb.length
  have nd : (kvs.map (·.1)).Nodup := by
    obtain ⟨_, _, _, _, _, _, _, _, nd⟩ := da
    rw [ra.keys]; exact nd
  exact PySem.W.keq_ne (knd := mixKind X.prog X.w) (r := true) ya yb da db hu (fun _ => hits_all2 rb ra fun p hp => ⟨val_nodup nd p hp, fl p hp⟩) (fin_bl I q (by simp [hl]))
end
theorem un_of {A : Around} {k : Nat} (r : Room k A) : A.units < cLine := Nat.lt_of_le_of_lt (Nat.le_succ _) (hu_of r)
/-! steps -/
section
variable {σ : St} {H : Hp} {Q : VK} {td ty tx tv : TE} {D : Ends} {a p : Addr} {kvs : List (Key × V)} {k : Key} {v y : V} {o : Option V}
theorem w_dget (h : td σ H fun x H1 => ty σ H1 fun y H2 => ∃ a v, x = .ref a ∧ DGet H2 a y (some v) ∧ Q v H2) : tDGet td ty σ H Q := h
theorem w_din (h : ty σ H fun y H1 => td σ H1 fun x H2 => ∃ a o, x = .ref a ∧ DGet H2 a y o ∧ Q (.bl o.isSome) H2) : tDIn ty td σ H Q := h
theorem w_dnotin (h : ty σ H fun y H1 => td σ H1 fun x H2 => ∃ a o, x = .ref a ∧ DGet H2 a y o ∧ Q (.bl (!o.isSome)) H2) : tDNotIn ty td σ H Q := h
theorem w_dget2 (h : td σ H fun x H1 => ∃ a, x = .ref a ∧ IsD H1 a ∧ ty σ H1 fun y H2 => tx σ H2 fun z H3 => ∃ o, DGet H3 a y o ∧ Q (o.getD z) H3) : tDGet2 td ty tx σ H Q := h
theorem w_dnew (h : ∀ p H', H p = none → Same H H' → H' p = some (.dK []) → Q (.ref p) H') : tDNewK σ H Q := fun p hp => h p _ hp (same_upd hp) upd_same
/-- reading of a dict with plain keys -/
theorem k_get {R : V → Prop} (e : H a = some (.dK kvs)) (l : valV kvs k = some v) (h : R v) (hy : y = kV k := by rfl) : ∃ a' v', V.ref a = .ref a' ∧ DGet H a' y (some v') ∧ R v' := ⟨a, v, rfl, by rw [hy, ← l]; exact DGet.k e, h⟩
theorem k_in {R : Option V → Prop} (e : H a = some (.dK kvs)) (h : R (valV kvs k)) (hy : y = kV k := by rfl) : ∃ a' o, V.ref a = .ref a' ∧ DGet H a' y o ∧ R o := ⟨a, _, rfl, by rw [hy]; exact DGet.k e, h⟩
theorem k_isD {R : Addr → Prop} (e : H a = some (.dK kvs)) (h : R a) : ∃ a', V.ref a = .ref a' ∧ IsD H a' ∧ R a' := ⟨a, rfl, .inl ⟨kvs, .inl e⟩, h⟩
theorem k_get2 {R : Option V → Prop} (e : H a = some (.dK kvs)) (h : R (valV kvs k)) (hy : y = kV k := by rfl) : ∃ o, DGet H a y o ∧ R o := ⟨_, by rw [hy]; exact DGet.k e, h⟩
theorem k_put {R : Hp → Prop} (e : H a = some (.dK kvs)) (hz : kvs.length ≤ 4096) (h : ∀ H', H' a = some (.dK (putK kvs k v)) → Ex a H H' → R H') (hy : y = kV k := by rfl) : rSetD (.ref a) y v H R :=
  ⟨a, _, rfl, by rw [hy]; exact DPut.k e (Nat.lt_of_le_of_lt hz (by decide)), h _ upd_same fun b hb => upd_ne hb⟩
theorem w_dictC (e : H a = some (.dK kvs)) (h : ∀ p H', H p = none → Same H H' → H' p = some (.dK kvs) → Q (.ref p) H') : rDictC [.ref a] H Q := ⟨a, kvs, rfl, e, fun p hp => h p _ hp (same_upd hp) upd_same⟩
end
theorem Tm.exK {H H' : Hp} {p : Addr} {kvs : List (Key × V)} (hp : H p = some (.dK kvs)) (x : Ex p H H') : Tm H H' := fun b ys e => by
  rw [x b (ne_of e hp (by intro z; cases z))]; exact e
/-! ### a def with a star parameter, called plainly -/
structure CalR (P : Program) (w : World) (K : PySem.W.Frag) (mg : Str → Option Value) (base : Heap) (CX : CXT) (k : Nat) (x : Str) (sp : Sp) : Prop where
  ex : ∃ (f : Addr), FnR P w K mg base CX k f sp ∧ mg x = some (.ref f) ∧ PySem.W.keepIn K (.ref f) = true
section
variable {X : Cx} {CX : CXT} {k j : Nat} {x : Str} {sp : Sp} {p pos : Pos} {e : Expr} {es : List Expr} {t : TA} {E : XK}
theorem pe_cr (c : CalR X.prog X.w X.K X.mg X.base CX k x sp) (hr : Room j X.A) (hk : k ≤ j) (hg : Gl X x) (hx : Passes CX X E) (ha : PA X (e :: es) t)
    (hdb : (x == ("__debug__" : Str)) = false := by decide) (he : starEach (e :: es) X.env = (false, eval e X.env) :: starEach es X.env := by rfl) (hpl : (backTo pos (starEach es X.env)).any (·.1) = false := by rfl) :
    PE X (.Call (.Name x p) (e :: es) [] pos) (fun σ H Q => t σ H fun vs H1 => sp vs H1 Q E) := by
  obtain ⟨f, F, hm, kp⟩ := c.ex
  refine ⟨fun pins s σ H Q I h => ?_⟩
  refine wpAny_Call_Name_kw (ld_glob I hg hm ?_ hdb)
  refine PySem.W.callWith_K (h₀ := X.base) I.ok.mod.kin kp (thn (ha.run pos pins s σ H _ I h) fun us s1 ⟨vs, H1, I1, r, q⟩ => ⟨I1.kIn, ?_⟩) he hpl
  exact wpAny_call (run_fnR F (hr.mono hk) hx I1 r q)
end
/-- a def f(a, *r) without try and raise, at most 5 arguments behind the first -/
theorem calr0 {P : Program} {w : World} {K : PySem.W.Frag} {mg : Str → Option Value} {base : Heap} {x : Str} {params : Arguments} {body : List Stmt} {scope : Scope} {f : Addr} {fd : FuncData} {N : List Str} {pa pv : Str} {k : Nat} {sp : Sp} (F : FunD K x x params body scope [] [] f fd) (hm : mg x = some (.ref f)) (S : FnScope N [pa, pv] scope)
    (hb : ∀ (kV doc pm : Value) (an : Option Addr) (cdv ct : Value) (u : Value) (rest : List Value), rest.length ≤ 5 → bindArgs (PySem.W.fnOf x x params body scope .none kV doc pm an cdv ct) ⟨u :: rest, []⟩ = (newTuple rest >>= fun t => pure [(pa, u), (pv, t)]))
    (hbody : ∀ (cdv : Value) (A : Around) (outer : List Env) (s : Shared) (H : Hp) (vs : List V) (Q : VK) (E : XK), Room k (A.deeper (envOfC x scope s.heap.objs.size f cdv)) → sp vs H Q E →
      ∃ t, PSs (cxOf CX0 P w K mg base N x scope f cdv A outer s H E).nox body t ∧ t { nx := fun _ H' => Q .non H', rt := Q } (start N vs) H) : CalR P w K mg base CX0 (k + 1) x (fun vs H Q E => ∃ v rest, vs = v :: rest ∧ rest.length ≤ 5 ∧ ∀ p H', H p = none → Same H H' → H' p = some (.tup rest) → sp [v, .ref p] H' Q E) := by
  obtain ⟨oc, od, dV, kV, doc, pm, an, cdv, ct, osl, rfl, lk, hcd, hD, _⟩ := F.ex
  rcases hD with ⟨_, rfl⟩ | ⟨e, _⟩
  · refine ⟨f, FnR.imp (fn_ofV (nmax := 5) (sp := sp) lk hcd S (by decide) (hb kV doc pm an cdv ct) (fun _ _ _ _ _ _ _ _ _ _ _ _ z => z) fun A outer s H vs Q E hr h => ?_) (fun vs H Q E ⟨v, rest, e, hl, q⟩ => ⟨v, rest, e, hl, fun p hp => q p _ hp (same_upd hp) upd_same⟩), hm, F.kp⟩
    obtain ⟨t, h1, h2⟩ := hbody cdv A outer s H vs Q E hr h
    exact ⟨t, h1.nox, h2⟩
  · exact absurd rfl e
end L2

/-! Walks over a dict's keys. -/
namespace L2
open PySem PySem.Spec PyProof.Rows SX TL
section
variable {σ : St} {H : Hp} {Q : VK} {td : TE} {a d : Addr} {kvs : List (Key × V)} {k : Key} {v y : V} {D : Ends} {t : TS} {o : Obj} {R : It → Hp → Prop}
theorem k_getR {R : V → Prop} (e : Rd H a (.dK kvs)) (l : valV kvs k = some v) (h : R v) (hy : y = kV k := by rfl) : ∃ a' v', V.ref a = .ref a' ∧ DGet H a' y (some v') ∧ R v' := ⟨a, v, rfl, .inl ⟨kvs, k, e, hy, l.symm⟩, h⟩
theorem w_lock (e : H d = some (.dK kvs)) (h : ∀ od, t ⟨fun σ' H' => H' d = some (.frz od (.dK kvs)) ∧ D.nx σ' (upd H' d (.dK kvs)), fun v H' => H' d = some (.frz od (.dK kvs)) ∧ D.rt v (upd H' d (.dK kvs)), fun σ' H' => H' d = some (.frz od (.dK kvs)) ∧ D.bk σ' (upd H' d (.dK kvs)), fun σ' H' => H' d = some (.frz od (.dK kvs)) ∧ D.ct σ' (upd H' d (.dK kvs))⟩ σ (upd H d (.frz od (.dK kvs)))) : tLock t D σ H :=
  ⟨d, _, e, trivial, h⟩
theorem w_iKeys (h : td σ H fun x H1 => ∃ d o, x = .ref d ∧ ((∃ kvs, H1 d = some (.frz o (.dK kvs)) ∧ R (Itk d o kvs) H1) ∨ ∃ kvs, H1 d = some (.frz o (.dT kvs)) ∧ R (Itkt d o kvs) H1)) : iKeys td σ H R := h
theorem for_keys {g : TG} {tb : TS} (Pv : Nat → St → Hp → Prop) (h0 : Pv 0 σ H) (hl : ∀ i σ H, Pv i σ H → H d = some (.frz o (.dK kvs)))
    (hs : ∀ i k v σ H, kvs[i]? = some (k, v) → Pv i σ H → g (kV k) σ H fun σ2 H2 => tb { D with nx := Pv (i + 1), ct := Pv (i + 1), bk := D.nx } σ2 H2) (hd : ∀ σ H, Pv kvs.length σ H → D.nx σ H) :
    ∃ W : Nat → Nat → St → Hp → Prop, (∃ m, W 0 m σ H) ∧ ∀ i m σ H, W i m σ H →
      ((Itk d o kvs).stop i H ∧ D.nx σ H) ∨ ((Itk d o kvs).go i H ∧ ∃ N : St → Hp → Prop, (∀ σ' H', N σ' H' → ∃ m', m' < m ∧ W (i + 1) m' σ' H') ∧ ∀ x H', (Itk d o kvs).yld i H x H' → g x σ H' fun σ2 H2 => tb { D with nx := N, ct := N, bk := D.nx } σ2 H2) := by
  refine ⟨fun i m σ H => m = kvs.length - i ∧ i ≤ kvs.length ∧ Pv i σ H, ⟨kvs.length, by simp, Nat.zero_le _, h0⟩, ?_⟩
  rintro i m σ H ⟨rfl, hi, p⟩
  by_cases hlt : i < kvs.length
  · refine .inr ⟨⟨hl i σ H p, hlt⟩, Pv (i + 1), fun σ' H' p' => ⟨kvs.length - (i + 1), by omega, rfl, hlt, p'⟩, fun x H' y => ?_⟩
    obtain ⟨e, k, v, hk, rfl⟩ := y
    subst e
    exact hs i k v σ _ hk p
  · have e : i = kvs.length := by omega
    subst e
    exact .inl ⟨⟨hl _ σ H p, Nat.le_refl _⟩, hd σ H p⟩
theorem valV_mem {κ : Type} [DecidableEq κ] {kvs : List (κ × V)} {k : κ} : (∃ v, valV kvs k = some v) ↔ k ∈ kvs.map (·.1) := by
  have h := valV_any k kvs
  constructor
  · rintro ⟨v, e⟩
    rw [e] at h
    obtain ⟨p, hp, e2⟩ := List.any_eq_true.mp h
    exact List.mem_map.mpr ⟨p, hp, of_decide_eq_true e2⟩
  · intro hm
    obtain ⟨p, hp, e⟩ := List.mem_map.mp hm
    have : (kvs.any fun kv => decide (kv.1 = k)) = true := List.any_eq_true.mpr ⟨p, hp, decide_eq_true e⟩
    rw [h] at this
    cases z : valV kvs k with
    | none => rw [z] at this; cases this
    | some v => exact ⟨v, rfl⟩
end
end L2

namespace K01
open PySem PySem.Spec PyProof.Rows L2 SX K02
local macro_rules | `(tactic| walk_at "w1") => `(tactic| (first
  | with_reducible refine w_seq ?_ | with_reducible refine w_asgN ?_ | with_reducible refine w_c ?_
  | ((with_reducible refine' w_var ?wv ?_); (case wv => exact rfl))
  | with_reducible refine w_op ?_ | with_reducible refine w_un ?_ | with_reducible refine w_next ?_ | with_reducible refine w_brk ?_ | with_reducible refine w_cnt ?_
  | with_reducible refine w_ifS ?_ | with_reducible refine w_if ?_ | with_reducible refine w_test ?_ | with_reducible refine w_tB ?_ | with_reducible refine w_bl ?_ | with_reducible refine w_blI ?_
  | with_reducible refine w_and ?_ | with_reducible refine w_or ?_ | with_reducible refine w_not ?_ | with_reducible refine w_andV ?_ | with_reducible refine w_orV ?_ | with_reducible refine w_notV ?_
  | with_reducible refine w_nil ?_ | with_reducible refine w_cons ?_ | with_reducible refine w_cb ?_ | with_reducible refine w_call ?_ | with_reducible refine w_callS ?_ | with_reducible refine w_chain ?_
  | with_reducible refine w_tupN ?_ | with_reducible refine w_lstN ?_ | with_reducible refine w_sl ?_ | with_reducible refine w_noPart ?_ | with_reducible refine w_part ?_ | with_reducible refine w_partI ?_
  | with_reducible refine w_ret ?_ | with_reducible refine w_retN ?_ | with_reducible refine w_drop ?_ | with_reducible refine w_asg ?_ | with_reducible refine w_gSub ?_
  | ((with_reducible refine' w_aug ?wv ?_); (case wv => exact rfl)) | with_reducible refine w_ipI ?_
  | with_reducible refine w_addI ?_ | with_reducible refine w_subI ?_ | with_reducible refine w_ltI ?_ | with_reducible refine w_leI ?_ | with_reducible refine w_gtI ?_ | with_reducible refine w_geI ?_
  | with_reducible refine w_eqI ?_ | with_reducible refine w_neI ?_ | with_reducible refine w_eqT ?_ | with_reducible refine w_neT ?_ | with_reducible refine w_inS ?_ | with_reducible refine w_ninS ?_
  | with_reducible refine w_absI ?_ | with_reducible refine w_intI ?_ | with_reducible refine w_maxI ?_ | with_reducible refine w_minI ?_
  | with_reducible refine w_for ?_ | with_reducible refine w_iR1 ?_ | with_reducible refine w_iR2 ?_ | with_reducible refine w_iStr ?_ | with_reducible refine w_strI ?_ | with_reducible refine w_iList ?_ | with_reducible refine w_iTup ?_
  | with_reducible refine w_bm ?_ | with_reducible refine w_bm0 ?_ | with_reducible refine w_t ?_ | with_reducible refine w_f ?_ | with_reducible refine w_nt ?_ | with_reducible refine w_nx ?_ | with_reducible refine w_rt ?_ | with_reducible refine w_bk ?_ | with_reducible refine w_ct ?_ | with_reducible refine w_nf ?_ | with_reducible refine w_lc ?_ | with_reducible refine w_yes ?_ | with_reducible refine w_neg ?_ | with_reducible refine w_intB ?_ | with_reducible refine w_fld ?_ | with_reducible refine w_setf ?_ | with_reducible refine w_faug ?_ | with_reducible refine w_meth ?_ | with_reducible refine w_bmS ?_ | with_reducible refine w_start ?_ | with_reducible refine w_revL ?_ | with_reducible refine w_iR3 ?_))
local macro_rules | `(tactic| walk_at "w") => `(tactic| (repeat (first | walk_at "w1" | dsimp (config := { proj := false }) only [List.set_cons_zero, List.set_cons_succ])))
section
variable {w : World} {K : PySem.W.Frag} {mg : Str → Option Value} {base : Heap}

theorem w_iR3 {σ : L2.St} {H : Hp} {tA : TA} {R : It → Hp → Prop} (h : tA σ H fun vs H1 => ∃ (i j c : Int) (n : Nat), vs = [.int i, .int j, .int c] ∧ RgC i j c n ∧ R (Itc i c n) H1) : iRng3 tA σ H R := h
theorem szl {n m : Nat} (h : n ≤ m) (hm : m ≤ 16777216 := by omega) : n ≤ sizeLine := by rw [sizeLine_eq]; omega
theorem tl_let : (Str.ofString "abcdefghijklmnopqrstuvwxyz").cps.toList = LET := by decide +kernel
theorem tl_ws : (Str.ofString "abcdefghijklmnopqrstuvwxyz0123456789_").cps.toList = WS := by decide +kernel
/-! ### the pot -/
def Pot (a : Addr) (H : Hp) : Prop := ∃ r s c : Int, H a = some (.lst [.int r, .int s, .int c]) ∧ 0 ≤ r ∧ 0 ≤ s ∧ s < 2147483647
theorem Pot.same {a : Addr} {H H' : Hp} (h : Pot a H) (k : Same H H') : Pot a H' := by
  obtain ⟨r, s, c, h1, h2⟩ := h; exact ⟨r, s, c, k _ _ h1, h2⟩
theorem Pot.lst {a : Addr} {H : Hp} (h : Pot a H) : ∃ xs, H a = some (.lst xs) := by obtain ⟨r, s, c, h1, h2⟩ := h; exact ⟨_, h1⟩
theorem Pot.ex {a p : Addr} {H H' : Hp} (h : Pot a H) (x : Ex p H H') (n : a ≠ p) : Pot a H' := by
  obtain ⟨r, s, c, h1, h2⟩ := h; exact ⟨r, s, c, by rw [x a n]; exact h1, h2⟩
theorem Pot.ne {a p : Addr} {H : Hp} (h : Pot a H) (hp : H p = none) : p ≠ a := fun z => by
  obtain ⟨r, s, c, h1, h2⟩ := h; subst z; rw [h1] at hp; cases hp
theorem Kb.none {a p : Addr} {H H' : Hp} (k : Kb a H H') (h : Pot a H') (hp : H' p = none) : H p = none := by
  cases e : H p with
  | none => rfl
  | some o => rw [k p o (h.ne hp) e] at hp; cases hp
theorem Kb.pot_tm {a : Addr} {H H' : Hp} (h : Pot a H) (k : Kb a H H') : Tm H H' := let ⟨_, e⟩ := h.lst; k.tm e
theorem DLkb {a p : Addr} {H H' : Hp} {ds : List PyData} (d : DL H p ds) (h : Pot a H) (k : Kb a H H') (n : p ≠ a) : DL H' p ds := let ⟨_, e⟩ := h.lst; d.kb k n e
def sp_law_pot (K : PySem.W.Frag) : Sp := sp2 fun x y H Q _ => ∃ (a : Addr) (ns : List Int) (k : Nat), x = .ref a ∧ y = .int (k : Int) ∧ SqL K H a (ns.map V.int) ∧ ns.length ≤ 63 ∧ k ≤ 63 ∧ ∀ p H', H p = none → Same H H' → Pot p H' → Q (.ref p) H'
theorem ten18 : ((10 : Int) ^ (18 : Int).toNat) = 1000000000000000000 := by decide +kernel
theorem pow10 : CPowN 10 18 := ⟨by decide, by decide +kernel⟩
theorem ok_law_pot (T : Txt w K mg) {fd : FuncData} (F : Fn_law_pot K fd) (hm : mg "_law_pot" = some (.ref (He.ga K "_law_pot")))  : CalX P w K mg base CX0 1 "_law_pot" (sp_law_pot K) := by
  refine calx0 (k := 0) F hm sc_law_pot (b_law_pot F) (fun _ _ _ _ h => sp2_len h) (fun cdv A outer s H vs Q E hr h => ?_)
  obtain ⟨x0, x1, rfl, h⟩ := h
  refine ⟨_, (pss_cons (ps_set (i := 2) sc_law_pot.nd rfl (Or.inl rfl) pe_int)
    (Evl.pss_cut (ps_if (pt_cmpR op_ltI (pv 1) (pe_callB call_lenQ (by rfl) T.f_len PySem.boot_len (pa_cons (pv 0) pa_nil)) (nomark _))
    (pss_one (ps_set (i := 2) sc_law_pot.nd rfl (Or.inl rfl) (pe_callB call_absI (by rfl) T.f_abs (by decide +kernel) (pa_cons (pe_ix ix_list (pv 0) (pv 1) (fun _ _ => rfl)) pa_nil))))
    pss_nil)
    (pss_cons (ps_set (i := 3) sc_law_pot.nd rfl (Or.inl rfl) pe_int)
    (Evl.pss_cut (ps_if (pt_cmpR op_geI (pv 2) (pe_op op_powN pe_int pe_int) (nomark _))
    (pss_one (ps_set (i := 3) sc_law_pot.nd rfl (Or.inl rfl) (pv 2)))
    pss_nil)
    (pss_one (ps_ret (pe_lst (pa_cons (pv 3) (pa_cons (pe_op op_modI (pe_callTy call_intI (by rfl) T.f_int (by decide +kernel) (pa_cons (pe_op op_addI (pe_op op_addI (pv 2) (pe_op op_mulI pe_int (pv 1))) pe_int) pa_nil)) pe_int) (pa_cons pe_int pa_nil)))))))))), ?_⟩
  rw [show start ["script", "k", "cell", "rest"] [x0, x1] = [some x0, some x1, none, none] from rfl]
  obtain ⟨a, ns, k, rfl, rfl, hS, hn, hk, hQ⟩ := h
  try dsimp only [cxOf]
  walk_at "w"
  refine w_mid (fun σ H' => H' = H ∧ ∃ c : Int, 0 ≤ c ∧ σ = [some (.ref a), some (.int (k : Int)), some (.int c), none]) ?_ ?_
  · walk_at "w"
    refine w_lenL hS ?_
    rw [List.length_map]
    walk_at "w"
    refine w_dec (fun h1 => ?_) (fun h1 => ?_)
    · walk_at "w"
      have hk' : k < ns.length := by omega
      have hc : (ns.map V.int)[k]? = some (.int ns[k]) := by rw [List.getElem?_map, List.getElem?_eq_getElem hk']; rfl
      refine w_ixL hS hc ?_
      walk_at "w"
      exact ⟨rfl, _, by split <;> omega, rfl⟩
    · walk_at "w"
      exact ⟨rfl, 0, by omega, rfl⟩
  rintro σ H' ⟨rfl, c, hc, rfl⟩
  walk_at "w"
  refine w_mid (fun σ H1 => H1 = H' ∧ ∃ r : Int, 0 ≤ r ∧ σ = [some (.ref a), some (.int (k : Int)), some (.int c), some (.int r)]) ?_ ?_
  · walk_at "w"
    refine w_powN pow10 ?_
    rw [ten18]
    walk_at "w"
    refine w_dec (fun h1 => ?_) (fun h1 => ?_)
    · walk_at "w"
      exact ⟨rfl, c, hc, rfl⟩
    · walk_at "w"
      exact ⟨rfl, 0, by omega, rfl⟩
  rintro σ H1 ⟨rfl, r, hr0, rfl⟩
  walk_at "w"
  refine w_mulI (.inr (by omega)) ?_
  walk_at "w"
  refine w_modI (by omega) ?_
  walk_at "w"
  refine n_L (fun p H2 hp s e => ?_)
  exact hQ p H2 hp s ⟨_, _, _, e, hr0, Int.emod_nonneg _ (by omega), Int.emod_lt_of_pos _ (by omega)⟩

def sp_law_take : Sp := sp2 fun x y H Q _ => ∃ (a : Addr) (m : Nat), x = .ref a ∧ y = .int (m : Int) ∧ 0 < m ∧ m < 1000000 ∧ Pot a H ∧ ∀ (v : Nat) H', v < m → Pot a H' → Kb a H H' → Q (.int v) H'
theorem ok_law_take (T : Txt w K mg) {fd : FuncData} (F : Fn_law_take K fd) (hm : mg "_law_take" = some (.ref (He.ga K "_law_take")))  : CalX P w K mg base CX0 1 "_law_take" sp_law_take := by
  refine calx0 (k := 0) F hm sc_law_take (b_law_take F) (fun _ _ _ _ h => sp2_len h) (fun cdv A outer s H vs Q E hr h => ?_)
  obtain ⟨x0, x1, rfl, h⟩ := h
  refine ⟨_, (pss_cons (ps_asg (pe_op op_addI (pe_ix ix_list (pv 0) pe_int (fun _ _ => rfl)) pe_int) (pg_sub (pv 0) pe_int set_list))
    (pss_cons (ps_if (pt_cmpR op_gtI (pe_ix ix_list (pv 0) pe_int (fun _ _ => rfl)) pe_int (nomark _))
    (pss_cons (ps_set (i := 2) sc_law_take.nd rfl (Or.inl rfl) (pe_op op_modI (pe_callTy call_intI (by rfl) T.f_int (by decide +kernel) (pa_cons (pe_ix ix_list (pv 0) pe_int (fun _ _ => rfl)) pa_nil)) (pv 1)))
    (pss_cons (ps_asg (pe_op op_divI (pe_ix ix_list (pv 0) pe_int (fun _ _ => rfl)) (pv 1)) (pg_sub (pv 0) pe_int set_list))
    (pss_one (ps_ret (pv 2)))))
    pss_nil)
    (pss_cons (ps_set (i := 3) sc_law_take.nd rfl (Or.inl rfl) (pe_op op_modI (pe_callTy call_intI (by rfl) T.f_int (by decide +kernel) (pa_cons (pe_op op_addI (pe_op op_mulI (pe_ix ix_list (pv 0) pe_int (fun _ _ => rfl)) pe_int) (pe_op op_mulI (pe_ix ix_list (pv 0) pe_int (fun _ _ => rfl)) pe_int)) pa_nil)) pe_int))
    (pss_cons (ps_set (i := 3) sc_law_take.nd rfl (Or.inl rfl) (pe_op op_modI (pe_callTy call_intI (by rfl) T.f_int (by decide +kernel) (pa_cons (pe_op op_addI (pe_op op_mulI (pv 3) (pv 3)) (pe_op op_mulI (pe_ix ix_list (pv 0) pe_int (fun _ _ => rfl)) pe_int)) pa_nil)) pe_int))
    (pss_cons (ps_set (i := 3) sc_law_take.nd rfl (Or.inl rfl) (pe_op op_modI (pe_callTy call_intI (by rfl) T.f_int (by decide +kernel) (pa_cons (pe_op op_addI (pe_op op_mulI (pv 3) (pv 3)) (pe_op op_divI (pv 3) pe_int)) pa_nil)) pe_int))
    (pss_one (ps_ret (pe_op op_modI (pe_callTy call_intI (by rfl) T.f_int (by decide +kernel) (pa_cons (pe_op op_divI (pv 3) pe_int) pa_nil)) (pv 1))))))))), ?_⟩
  rw [show start ["pot", "many", "digit", "mixed"] [x0, x1] = [some x0, some x1, none, none] from rfl]
  obtain ⟨a, m, rfl, rfl, hm, hm2, ⟨r, s0, c, h1, hr0, hs0, hs1⟩, hQ⟩ := h
  have b1 : ∀ a b : Int, 0 < b → 0 ≤ a % b ∧ a % b < b := fun a b h => ⟨Int.emod_nonneg _ (by omega), Int.emod_lt_of_pos _ h⟩
  have fin : ∀ (v : Int) H' (r c : Int), 0 ≤ v → v < m → H' a = some (.lst [.int r, .int s0, .int c]) → 0 ≤ r → Kb a H H' → Q (.int v) H' := fun v H' r c z1 z2 e hr0 k => by
    have e1 : ((v.toNat : Nat) : Int) = v := Int.toNat_of_nonneg z1
    have z := hQ v.toNat H' (by omega) ⟨r, s0, c, e, hr0, hs0, hs1⟩ k
    rw [e1] at z; exact z
  have kb : ∀ {H1 : Hp} {o : HO}, Kb a H H1 → Kb a H (upd H1 a o) := fun k b o n e => by rw [upd_ne n]; exact k b o n e
  try dsimp only [cxOf]
  walk_at "w"
  refine w_ixL (n := 2) (SqL.of h1) rfl ?_
  walk_at "w"
  refine w_setL (k := 2) h1 (Nat.le_of_ble_eq_true rfl) ?_
  walk_at "w"
  have g1 : upd H a (.lst [.int r, .int s0, .int (c + 1)]) a = some (.lst [.int r, .int s0, .int (c + 1)]) := upd_same
  have k1 : Kb a H (upd H a (.lst [.int r, .int s0, .int (c + 1)])) := kb (Kb.refl _ _)
  generalize upd H a (.lst [.int r, .int s0, .int (c + 1)]) = H1 at g1 k1 ⊢
  walk_at "w"
  refine w_ixL (n := 0) (SqL.of g1) rfl ?_
  walk_at "w"
  refine w_dec (fun q1 => ?_) (fun q1 => ?_)
  · walk_at "w"
    refine w_ixL (n := 0) (SqL.of g1) rfl ?_
    walk_at "w"
    refine w_modI (by omega) ?_
    walk_at "w"
    refine w_ixL (n := 0) (SqL.of g1) rfl ?_
    walk_at "w"
    refine w_divI ⟨by omega, by omega⟩ ?_
    walk_at "w"
    refine w_setL (k := 0) g1 (Nat.le_of_ble_eq_true rfl) ?_
    walk_at "w"
    have := b1 r m (by omega)
    exact fin _ _ (r / m) (c + 1) this.1 this.2 upd_same (Int.ediv_nonneg hr0 (by omega)) (kb k1)
  walk_at "w"
  refine w_ixL (n := 1) (SqL.of g1) rfl ?_
  walk_at "w"
  refine w_mulI (.inr (by omega)) ?_
  walk_at "w"
  refine w_ixL (n := 2) (SqL.of g1) rfl ?_
  walk_at "w"
  refine w_mulI (.inr (by omega)) ?_
  walk_at "w"
  refine w_modI (by omega) ?_
  walk_at "w"
  have z1 := b1 (s0 * 48271 + (c + 1) * 69621) 2147483647 (by omega)
  generalize (s0 * 48271 + (c + 1) * 69621) % 2147483647 = f1 at z1 ⊢
  refine w_mulI (.inl ⟨by omega, by omega⟩) ?_
  walk_at "w"
  refine w_ixL (n := 2) (SqL.of g1) rfl ?_
  walk_at "w"
  refine w_mulI (.inr (by omega)) ?_
  walk_at "w"
  refine w_modI (by omega) ?_
  walk_at "w"
  have z2 := b1 (f1 * f1 + (c + 1) * 16807) 2147483629 (by omega)
  generalize (f1 * f1 + (c + 1) * 16807) % 2147483629 = f2 at z2 ⊢
  refine w_mulI (.inl ⟨by omega, by omega⟩) ?_
  walk_at "w"
  refine w_divI ⟨by omega, by omega⟩ ?_
  walk_at "w"
  refine w_modI (by omega) ?_
  walk_at "w"
  refine w_divI ⟨by omega, by omega⟩ ?_
  walk_at "w"
  refine w_modI (by omega) ?_
  walk_at "w"
  have := b1 ((f2 * f2 + f2 / 4096) % 2147483587 / 64) m (by omega)
  exact fin _ _ r (c + 1) this.1 this.2 g1 hr0 k1
end
end K01

namespace K01
open PySem PySem.Spec PyProof.Rows L2 SX K02
local macro_rules | `(tactic| walk_at "w1") => `(tactic| (first
  | with_reducible refine w_seq ?_ | with_reducible refine w_asgN ?_ | with_reducible refine w_c ?_
  | ((with_reducible refine' w_var ?wv ?_); (case wv => exact rfl))
  | with_reducible refine w_op ?_ | with_reducible refine w_un ?_ | with_reducible refine w_next ?_ | with_reducible refine w_brk ?_ | with_reducible refine w_cnt ?_
  | with_reducible refine w_ifS ?_ | with_reducible refine w_if ?_ | with_reducible refine w_test ?_ | with_reducible refine w_tB ?_ | with_reducible refine w_bl ?_ | with_reducible refine w_blI ?_
  | with_reducible refine w_and ?_ | with_reducible refine w_or ?_ | with_reducible refine w_not ?_ | with_reducible refine w_andV ?_ | with_reducible refine w_orV ?_ | with_reducible refine w_notV ?_
  | with_reducible refine w_nil ?_ | with_reducible refine w_cons ?_ | with_reducible refine w_cb ?_ | with_reducible refine w_call ?_ | with_reducible refine w_callS ?_ | with_reducible refine w_chain ?_
  | with_reducible refine w_tupN ?_ | with_reducible refine w_lstN ?_ | with_reducible refine w_sl ?_ | with_reducible refine w_noPart ?_ | with_reducible refine w_part ?_ | with_reducible refine w_partI ?_
  | with_reducible refine w_ret ?_ | with_reducible refine w_retN ?_ | with_reducible refine w_drop ?_ | with_reducible refine w_asg ?_ | with_reducible refine w_gSub ?_
  | ((with_reducible refine' w_aug ?wv ?_); (case wv => exact rfl)) | with_reducible refine w_ipI ?_
  | with_reducible refine w_addI ?_ | with_reducible refine w_subI ?_ | with_reducible refine w_ltI ?_ | with_reducible refine w_leI ?_ | with_reducible refine w_gtI ?_ | with_reducible refine w_geI ?_
  | with_reducible refine w_eqI ?_ | with_reducible refine w_neI ?_ | with_reducible refine w_eqT ?_ | with_reducible refine w_neT ?_ | with_reducible refine w_inS ?_ | with_reducible refine w_ninS ?_
  | with_reducible refine w_absI ?_ | with_reducible refine w_intI ?_ | with_reducible refine w_maxI ?_ | with_reducible refine w_minI ?_
  | with_reducible refine w_for ?_ | with_reducible refine w_iR1 ?_ | with_reducible refine w_iR2 ?_ | with_reducible refine w_iStr ?_ | with_reducible refine w_strI ?_ | with_reducible refine w_iList ?_ | with_reducible refine w_iTup ?_
  | with_reducible refine w_bm ?_ | with_reducible refine w_bm0 ?_ | with_reducible refine w_t ?_ | with_reducible refine w_f ?_ | with_reducible refine w_nt ?_ | with_reducible refine w_nx ?_ | with_reducible refine w_rt ?_ | with_reducible refine w_bk ?_ | with_reducible refine w_ct ?_ | with_reducible refine w_nf ?_ | with_reducible refine w_lc ?_ | with_reducible refine w_yes ?_ | with_reducible refine w_neg ?_ | with_reducible refine w_intB ?_ | with_reducible refine w_fld ?_ | with_reducible refine w_setf ?_ | with_reducible refine w_faug ?_ | with_reducible refine w_meth ?_ | with_reducible refine w_bmS ?_ | with_reducible refine w_start ?_ | with_reducible refine w_revL ?_ | with_reducible refine w_iR3 ?_))
local macro_rules | `(tactic| walk_at "w") => `(tactic| (repeat (first | walk_at "w1" | dsimp (config := { proj := false }) only [List.set_cons_zero, List.set_cons_succ])))
section
variable {w : World} {K : PySem.W.Frag} {mg : Str → Option Value} {base : Heap}

/-- shaped as a name -/
def NSh (l : List Nat) : Prop := (1 ≤ l.length ∧ l.length ≤ 16) ∧ (∃ c, l[0]? = some c ∧ c ∈ LET) ∧ ∀ c ∈ l, c ∈ WS
def WS2 : List Nat := LET ++ [95,48,49,50,51,52,53,54,55,56,57]
theorem ws2 {c : Nat} (h : c ∈ WS2) : c ∈ WS := by
  have : ∀ c ∈ WS2, c ∈ WS := by decide
  exact this c h
theorem let_ws {c : Nat} (h : c ∈ LET) : c ∈ WS := List.mem_append_left _ h
theorem let_cat : S LET ++ S [95,48,49,50,51,52,53,54,55,56,57] = S WS2 := S_app _ _
theorem res_vs : ([.str (S [97,108,108]), .str (S [115,111,109,101]), .str (S [108,97,109]), .str (S [116,114,117,101]), .str (S [102,97,108,115,101]), .str (S [98,111,111,108])] : List V) = RES.map fun r => V.str (S r) := rfl
def sp_law_mended : Sp := sp1 fun a H Q _ => ∃ l : List Nat, a = .str (S l) ∧ NSh l ∧ ∀ l' H', isName l' = true → Same H H' → Q (.str (S l')) H'
theorem ok_law_mended (T : Txt w K mg) {fd : FuncData} (F : Fn_law_mended K fd) (hm : mg "_law_mended" = some (.ref (He.ga K "_law_mended")))  : CalX P w K mg base CX0 1 "_law_mended" sp_law_mended := by
  refine calx0 (k := 0) F hm sc_law_mended (b_law_mended F) (fun _ _ _ _ h => sp1_len h) (fun cdv A outer s H vs Q E hr h => ?_)
  obtain ⟨x0, rfl, h⟩ := h
  refine ⟨_, (pss_cons (ps_if (pt_cmpR op_in_seq (pv 0) (pe_lst (pa_cons pe_str (pa_cons pe_str (pa_cons pe_str (pa_cons pe_str (pa_cons pe_str (pa_cons pe_str pa_nil))))))) rfl)
    (pss_one (ps_ret (pe_op op_catS (pv 0) pe_str)))
    pss_nil)
    (pss_one (ps_ret (pv 0)))), ?_⟩
  rw [show start ["word"] [x0] = [some x0] from rfl]
  have ec0 : Str.ofString "all" = S [97,108,108] := S_ofs (by decide +kernel)
  have ec1 : Str.ofString "some" = S [115,111,109,101] := S_ofs (by decide +kernel)
  have ec2 : Str.ofString "lam" = S [108,97,109] := S_ofs (by decide +kernel)
  have ec3 : Str.ofString "true" = S [116,114,117,101] := S_ofs (by decide +kernel)
  have ec4 : Str.ofString "false" = S [102,97,108,115,101] := S_ofs (by decide +kernel)
  have ec5 : Str.ofString "bool" = S [98,111,111,108] := S_ofs (by decide +kernel)
  have ec6 : Str.ofString "0" = S [48] := S_ofs (by decide +kernel)
  rw [ec0, ec1, ec2, ec3, ec4, ec5, ec6]
  obtain ⟨l, rfl, ⟨h1, h2, h3⟩, hQ⟩ := h
  try dsimp only [cxOf]
  walk_at "w"
  refine n_L (fun p H1 hp s1 e1 => ?_)
  refine w_inLst (SqL.of e1) res_vs ?_
  walk_at "w"
  refine w_dec (fun h4 => ?_) (fun h4 => ?_)
  · have hlen : ∀ r ∈ RES, r.length ≤ 5 := by decide
    have hl := hlen l h4
    walk_at "w"
    refine w_catT (szl (show l.length + 1 ≤ 100 by omega)) ?_
    walk_at "w"
    refine hQ _ H1 ?_ s1
    have hno : ∀ r ∈ RES, 48 ∉ r := by decide
    unfold isName
    refine decide_eq_true ⟨by rw [List.length_append]; show 1 ≤ l.length + 1 ∧ l.length + 1 ≤ 16; omega, fun z => hno _ z (by simp), ?_, fun c hc => ?_⟩
    · obtain ⟨c, q1, q2⟩ := h2
      exact ⟨c, by rw [List.getElem?_append_left (by omega)]; exact q1, q2⟩
    · rcases List.mem_append.mp hc with hc | hc
      · exact h3 c hc
      · rw [List.mem_singleton.mp hc]; decide
  · walk_at "w"
    exact hQ l H1 (by unfold isName; exact decide_eq_true ⟨h1, h4, h2, h3⟩) s1

def sp_law_name : Sp := sp1 fun x H Q _ => ∃ a : Addr, x = .ref a ∧ Pot a H ∧ ∀ l H', isName l = true → Pot a H' → Kb a H H' → Q (.str (S l)) H'
theorem let_len : LET.length = 26 := by decide
theorem ws2_len : WS2.length = 37 := by decide
theorem ok_law_name (T : Txt w K mg) {fd : FuncData} (F : Fn_law_name K fd) (hm : mg "_law_name" = some (.ref (He.ga K "_law_name"))) (c_law_take : CalX P w K mg base CX0 1 "_law_take" sp_law_take) (c_law_mended : CalX P w K mg base CX0 1 "_law_mended" sp_law_mended) : CalX P w K mg base CX0 2 "_law_name" sp_law_name := by
  refine calx0 (k := 1) F hm sc_law_name (b_law_name F) (fun _ _ _ _ h => sp1_len h) (fun cdv A outer s H vs Q E hr h => ?_)
  obtain ⟨x0, rfl, h⟩ := h
  refine ⟨_, (pss_cons (ps_set (i := 1) sc_law_name.nd rfl (Or.inl rfl) pe_str)
    (pss_cons (ps_set (i := 2) sc_law_name.nd rfl (Or.inl rfl) (pe_op op_addI pe_int (pe_cx c_law_take hr (by decide) rfl pass0 (pa_cons (pv 0) (pa_cons pe_int pa_nil)))))
    (Evl.pss_cut (ps_if (pt_cmpR op_eq (pe_cx c_law_take hr (by decide) rfl pass0 (pa_cons (pv 0) (pa_cons pe_int pa_nil))) pe_int (nomark _))
    (pss_one (ps_set (i := 2) sc_law_name.nd rfl (Or.inl rfl) (pe_op op_addI pe_int (pe_cx c_law_take hr (by decide) rfl pass0 (pa_cons (pv 0) (pa_cons pe_int pa_nil))))))
    pss_nil)
    (pss_cons (ps_set (i := 3) sc_law_name.nd rfl (Or.inl rfl) (pe_ix ix_str (pv 1) (pe_cx c_law_take hr (by decide) rfl pass0 (pa_cons (pv 0) (pa_cons pe_int pa_nil))) (fun _ _ => rfl)))
    (pss_cons (ps_for PassesOwn.never rfl (pi_range1 (by rfl) T.f_range (pa_cons (pe_op op_subI (pv 2) pe_int) pa_nil)) (pg_name (i := 4) sc_law_name.nd rfl (Or.inl rfl))
    (pss_one (ps_set (i := 3) sc_law_name.nd rfl (Or.inl rfl) (pe_op op_catS (pv 3) (pe_ix ix_str (pe_op op_catS (pv 1) pe_str) (pe_cx c_law_take hr (by decide) rfl pass0 (pa_cons (pv 0) (pa_cons pe_int pa_nil))) (fun _ _ => rfl))))))
    (pss_one (ps_ret (pe_cx c_law_mended hr (by decide) rfl pass0 (pa_cons (pv 3) pa_nil))))))))), ?_⟩
  rw [show start ["pot", "letters", "size", "word", "k"] [x0] = [some x0, none, none, none, none] from rfl]
  have ec0 : Str.ofString "abcdefghijklmnopqrstuvwxyz" = S [97,98,99,100,101,102,103,104,105,106,107,108,109,110,111,112,113,114,115,116,117,118,119,120,121,122] := S_ofs (by decide +kernel)
  have ec1 : Str.ofString "_0123456789" = S [95,48,49,50,51,52,53,54,55,56,57] := S_ofs (by decide +kernel)
  rw [ec0, ec1]
  obtain ⟨a, rfl, hP, hQ⟩ := h
  rw [show S [97,98,99,100,101,102,103,104,105,106,107,108,109,110,111,112,113,114,115,116,117,118,119,120,121,122] = S LET from rfl]
  try dsimp only [cxOf]
  walk_at "w"
  refine ⟨_, _, rfl, a, 4, rfl, rfl, by omega, by omega, hP, fun v1 H1 hv1 P1 k1 => ?_⟩
  walk_at "w"
  refine w_mid (fun σ H' => ∃ n : Nat, n < 16 ∧ σ = [some (.ref a), some (.str (S LET)), some (.int ((n + 1 : Nat) : Int)), none, none] ∧ Pot a H' ∧ Kb a H H') ?_ ?_
  · walk_at "w"
    refine ⟨_, _, rfl, a, 4, rfl, rfl, by omega, by omega, P1, fun v2 H2 hv2 P2 k2 => ?_⟩
    walk_at "w"
    refine w_dec (fun h1 => ?_) (fun h1 => ?_)
    · walk_at "w"
      refine ⟨_, _, rfl, a, 16, rfl, rfl, by omega, by omega, P2, fun v3 H3 hv3 P3 k3 => ?_⟩
      walk_at "w"
      exact ⟨v3, hv3, by rw [show (1 : Int) + (v3 : Int) = ((v3 + 1 : Nat) : Int) by omega], P3, (k1.tr k2).tr k3⟩
    · walk_at "w"
      exact ⟨v1, by omega, by rw [show (1 : Int) + (v1 : Int) = ((v1 + 1 : Nat) : Int) by omega], P2, k1.tr k2⟩
  rintro σ H2 ⟨n, hn, rfl, P2, k2⟩
  walk_at "w"
  refine ⟨_, _, rfl, a, 26, rfl, rfl, by omega, by omega, P2, fun v3 H3 hv3 P3 k3 => ?_⟩
  walk_at "w"
  have hv3' : v3 < LET.length := by rw [let_len]; exact hv3
  refine w_ixS (szl (show LET.length ≤ 100 by decide)) (List.getElem?_eq_getElem hv3') ?_
  have hl := List.getElem_mem hv3'
  generalize LET[v3] = c0 at hl ⊢
  walk_at "w"
  refine w_rg1 (by omega) (by omega) ?_
  rw [show (((n + 1 : Nat) : Int) - 1).toNat = n by omega]
  refine for_range (fun i σ H' => ∃ (u : List Nat) (v : Option V), σ = [some (.ref a), some (.str (S LET)), some (.int ((n + 1 : Nat) : Int)), some (.str (S (c0 :: u))), v] ∧ u.length = i ∧ (∀ c ∈ u, c ∈ WS) ∧ Pot a H' ∧ Kb a H H')
    ⟨[], none, rfl, rfl, (fun c hc => by cases hc), P3, k2.tr k3⟩ ?_ ?_
  · rintro i σ H' hi ⟨u, v, rfl, hu, hw, P4, k4⟩
    have hi : i < n := by omega
    dsimp only [gName]
    walk_at "w"
    refine w_catT (szl (show LET.length + 11 ≤ 100 by decide)) ?_
    rw [show LET ++ [95,48,49,50,51,52,53,54,55,56,57] = WS2 from rfl]
    walk_at "w"
    refine ⟨_, _, rfl, a, 37, rfl, rfl, by omega, by omega, P4, fun v5 H5 hv5 P5 k5 => ?_⟩
    have hv5' : v5 < WS2.length := by rw [ws2_len]; exact hv5
    refine w_ixS (szl (show WS2.length ≤ 100 by decide)) (List.getElem?_eq_getElem hv5') ?_
    have hl5 := ws2 (List.getElem_mem hv5')
    generalize WS2[v5] = c5 at hl5 ⊢
    rw [show V.str (⟨#[c5]⟩ : Str) = V.str (S [c5]) from rfl]
    refine w_catT (szl (show (c0 :: u).length + 1 ≤ 100 by rw [List.length_cons]; omega)) ?_
    walk_at "w"
    refine ⟨u ++ [c5], _, rfl, by rw [List.length_append, hu]; rfl, fun c hc => ?_, P5, k4.tr k5⟩
    rcases List.mem_append.mp hc with hc | hc
    · exact hw c hc
    · rw [List.mem_singleton.mp hc]; exact hl5
  · rintro σ H' ⟨u, v, rfl, hu, hw, P4, k4⟩
    walk_at "w"
    refine ⟨_, rfl, c0 :: u, rfl, ⟨by rw [List.length_cons, hu]; omega, ⟨c0, rfl, hl⟩, fun c hc => ?_⟩, fun l' H6 hn6 s6 => ?_⟩
    · rcases List.mem_cons.mp hc with rfl | hc
      · exact let_ws hl
      · exact hw c hc
    · exact hQ l' H6 hn6 (P4.same s6) (k4.then s6)

def sp_law_near : Sp := sp2 fun x y H Q _ => ∃ (a : Addr) (l : List Nat), x = .ref a ∧ y = .str (S l) ∧ isName l = true ∧ Pot a H ∧ ∀ l' H', isName l' = true → Pot a H' → Kb a H H' → Q (.str (S l')) H'
theorem name_sh {l : List Nat} (h : isName l = true) : NSh l := by
  have := of_decide_eq_true h
  exact ⟨this.1, this.2.2.1, this.2.2.2⟩
theorem ok_law_near (T : Txt w K mg) {fd : FuncData} (F : Fn_law_near K fd) (hm : mg "_law_near" = some (.ref (He.ga K "_law_near"))) (c_law_take : CalX P w K mg base CX0 1 "_law_take" sp_law_take) (c_law_mended : CalX P w K mg base CX0 1 "_law_mended" sp_law_mended) : CalX P w K mg base CX0 2 "_law_near" sp_law_near := by
  refine calx0 (k := 1) F hm sc_law_near (b_law_near F) (fun _ _ _ _ h => sp2_len h) (fun cdv A outer s H vs Q E hr h => ?_)
  obtain ⟨x0, x1, rfl, h⟩ := h
  refine ⟨_, (pss_cons (ps_set (i := 2) sc_law_near.nd rfl (Or.inl rfl) (pe_cx c_law_take hr (by decide) rfl pass0 (pa_cons (pv 0) (pa_cons (pe_callB call_lenT (by rfl) T.f_len PySem.boot_len (pa_cons (pv 1) pa_nil)) pa_nil))))
    (pss_cons (ps_set (i := 3) sc_law_near.nd rfl (Or.inl rfl) (pe_ix ix_str pe_str (pe_cx c_law_take hr (by decide) rfl pass0 (pa_cons (pv 0) (pa_cons pe_int pa_nil))) (fun _ _ => rfl)))
    (pss_one (ps_ret (pe_cx c_law_mended hr (by decide) rfl pass0 (pa_cons (pe_op op_catS (pe_op op_catS (pe_slice sl_str (pv 1) po_none (po_some (pv 2))) (pv 3)) (pe_slice sl_str (pv 1) (po_some (pe_op op_addI (pv 2) pe_int)) po_none)) pa_nil)))))), ?_⟩
  rw [show start ["pot", "word", "place", "letter"] [x0, x1] = [some x0, some x1, none, none] from rfl]
  have ec0 : Str.ofString "abcdefghijklmnopqrstuvwxyz" = S [97,98,99,100,101,102,103,104,105,106,107,108,109,110,111,112,113,114,115,116,117,118,119,120,121,122] := S_ofs (by decide +kernel)
  rw [ec0]
  obtain ⟨a, l, rfl, rfl, hl, hP, hQ⟩ := h
  obtain ⟨q1, ⟨c1, q2, q2'⟩, q3⟩ := name_sh hl
  rw [show S [97,98,99,100,101,102,103,104,105,106,107,108,109,110,111,112,113,114,115,116,117,118,119,120,121,122] = S LET from rfl]
  try dsimp only [cxOf]
  walk_at "w"
  refine w_lenS (szl (show l.length ≤ 100 by omega)) ?_
  walk_at "w"
  refine ⟨_, _, rfl, a, l.length, rfl, rfl, by omega, by omega, hP, fun v1 H1 hv1 P1 k1 => ?_⟩
  walk_at "w"
  refine ⟨_, _, rfl, a, 26, rfl, rfl, by omega, by omega, P1, fun v3 H3 hv3 P3 k3 => ?_⟩
  have hv3' : v3 < LET.length := by rw [let_len]; exact hv3
  refine w_ixS (szl (show LET.length ≤ 100 by decide)) (List.getElem?_eq_getElem hv3') ?_
  have hl3 := List.getElem_mem hv3'
  generalize LET[v3] = c3 at hl3 ⊢
  rw [show V.str (⟨#[c3]⟩ : Str) = V.str (S [c3]) from rfl]
  walk_at "w"
  refine w_cutTo (szl (show l.length ≤ 100 by omega)) ?_
  walk_at "w"
  refine w_catT (szl (show (l.take v1).length + 1 ≤ 100 by rw [List.length_take]; omega)) ?_
  walk_at "w"
  rw [show (v1 : Int) + 1 = ((v1 + 1 : Nat) : Int) by omega]
  refine w_cutFrom (szl (show l.length ≤ 100 by omega)) ?_
  refine w_catT (szl (show (l.take v1 ++ [c3]).length + (l.drop (v1 + 1)).length ≤ 100 by rw [List.length_append, List.length_take, List.length_drop]; show min v1 l.length + 1 + _ ≤ 100; omega)) ?_
  walk_at "w"
  refine ⟨_, rfl, l.take v1 ++ [c3] ++ l.drop (v1 + 1), rfl, ⟨?_, ?_, fun c hc => ?_⟩, fun l' H6 hn6 s6 => ?_⟩
  · rw [List.length_append, List.length_append, List.length_take, List.length_drop]
    show 1 ≤ min v1 l.length + 1 + _ ∧ min v1 l.length + 1 + _ ≤ 16
    omega
  · cases v1 with
    | zero => exact ⟨c3, rfl, hl3⟩
    | succ v1 =>
      refine ⟨c1, ?_, q2'⟩
      rw [List.append_assoc, List.getElem?_append_left (by rw [List.length_take]; omega), List.getElem?_take_of_lt (by omega)]
      exact q2
  · rcases List.mem_append.mp hc with hc | hc
    · rcases List.mem_append.mp hc with hc | hc
      · exact q3 c (List.mem_of_mem_take hc)
      · rw [List.mem_singleton.mp hc]; exact let_ws hl3
    · exact q3 c (List.mem_of_mem_drop hc)
  · exact hQ l' H6 hn6 (P3.same s6) ((k1.tr k3).then s6)

/-- four names -/
def NmL (H : Hp) (p : Addr) : Prop := ∃ ws : List (List Nat), DL H p (ws.map fun w => PyData.str (S w)) ∧ ws.length = 4 ∧ ∀ w ∈ ws, isName w = true
theorem NmL.same {H H' : Hp} {p : Addr} (h : NmL H p) (s : Same H H') : NmL H' p := let ⟨ws, h1, h2⟩ := h; ⟨ws, h1.same s, h2⟩
theorem NmL.kb {a : Addr} {H H' : Hp} {p : Addr} (h : NmL H p) (P : Pot a H) (k : Kb a H H') (n : p ≠ a) : NmL H' p := let ⟨ws, h1, h2⟩ := h; ⟨ws, DLkb h1 P k n, h2⟩
theorem NmL.ex {q : Addr} {H H' : Hp} {p : Addr} (h : NmL H p) (x : Ex q H H') (n : p ≠ q) {xs : List V} (hq : H q = some (.lst xs)) : NmL H' p := let ⟨ws, h1, h2⟩ := h; ⟨ws, h1.ex x n hq, h2⟩
theorem NmL.ne {a : Addr} {H : Hp} {p : Addr} (h : NmL H p) (P : Pot a H) : p ≠ a := fun z => by
  obtain ⟨ws, ⟨xs, e, t⟩, h2, _⟩ := h
  obtain ⟨r, s, c, h1, _⟩ := P
  subst z
  rw [h1] at e
  cases e
  have := t.len
  rw [List.length_map, h2] at this
  cases this
theorem NmL.ix {K : PySem.W.Frag} {Q : VK} {H : Hp} {p : Addr} (h : NmL H p) {i : Nat} (hi : i < 4) (k : ∀ w, isName w = true → Q (.str (S w)) H) : rIxL K (.ref p) (.int (i : Int)) H Q := by
  obtain ⟨ws, h1, h2, h3⟩ := h
  have hi' : i < ws.length := by omega
  refine l_ix h1 (d := .str (S ws[i])) (by rw [List.getElem?_map, List.getElem?_eq_getElem hi']; rfl) (fun x tx => ?_)
  rw [tx.txt]
  exact k _ (h3 _ (List.getElem_mem hi'))
def sp_law_words : Sp := sp1 fun x H Q _ => ∃ a : Addr, x = .ref a ∧ Pot a H ∧ ∀ p H', H p = none → NmL H' p → Pot a H' → Kb a H H' → Q (.ref p) H'
theorem ok_law_words (T : Txt w K mg) {fd : FuncData} (F : Fn_law_words K fd) (hm : mg "_law_words" = some (.ref (He.ga K "_law_words"))) (c_law_name : CalX P w K mg base CX0 2 "_law_name" sp_law_name) (c_law_near : CalX P w K mg base CX0 2 "_law_near" sp_law_near) : CalX P w K mg base CX0 3 "_law_words" sp_law_words := by
  refine calx0 (k := 2) F hm sc_law_words (b_law_words F) (fun _ _ _ _ h => sp1_len h) (fun cdv A outer s H vs Q E hr h => ?_)
  obtain ⟨x0, rfl, h⟩ := h
  refine ⟨_, (pss_cons (ps_set (i := 1) sc_law_words.nd rfl (Or.inl rfl) (pe_cx c_law_name hr (by decide) rfl pass0 (pa_cons (pv 0) pa_nil)))
    (pss_cons (ps_set (i := 2) sc_law_words.nd rfl (Or.inl rfl) (pe_cx c_law_near hr (by decide) rfl pass0 (pa_cons (pv 0) (pa_cons (pv 1) pa_nil))))
    (pss_cons (ps_set (i := 3) sc_law_words.nd rfl (Or.inl rfl) (pe_cx c_law_name hr (by decide) rfl pass0 (pa_cons (pv 0) pa_nil)))
    (pss_cons (ps_set (i := 4) sc_law_words.nd rfl (Or.inl rfl) (pe_cx c_law_near hr (by decide) rfl pass0 (pa_cons (pv 0) (pa_cons (pv 3) pa_nil))))
    (pss_one (ps_ret (pe_lst (pa_cons (pv 1) (pa_cons (pv 2) (pa_cons (pv 3) (pa_cons (pv 4) pa_nil))))))))))), ?_⟩
  rw [show start ["pot", "first", "second", "third", "fourth"] [x0] = [some x0, none, none, none, none] from rfl]
  obtain ⟨a, rfl, hP, hQ⟩ := h
  try dsimp only [cxOf]
  walk_at "w"
  refine ⟨_, rfl, a, rfl, hP, fun l1 H1 n1 P1 k1 => ?_⟩
  walk_at "w"
  refine ⟨_, _, rfl, a, l1, rfl, rfl, n1, P1, fun l2 H2 n2 P2 k2 => ?_⟩
  walk_at "w"
  refine ⟨_, rfl, a, rfl, P2, fun l3 H3 n3 P3 k3 => ?_⟩
  walk_at "w"
  refine ⟨_, _, rfl, a, l3, rfl, rfl, n3, P3, fun l4 H4 n4 P4 k4 => ?_⟩
  walk_at "w"
  have k14 := ((k1.tr k2).tr k3).tr k4
  refine l_new (ds := [l1, l2, l3, l4].map fun w => PyData.str (S w)) (.cons (.str _) (.cons (.str _) (.cons (.str _) (.cons (.str _) .nil)))) (fun p H5 hp s5 d5 => ?_)
  exact hQ p H5 (Kb.none k14 P4 hp) ⟨[l1, l2, l3, l4], d5, rfl, by simp [n1, n2, n3, n4]⟩ (P4.same s5) (k14.then s5)

theorem w_eqSS {H : Hp} {Q : VK} {s : Str} (h : Q (.bl true) H) : rEq (.str s) (.str s) H Q := ⟨rfl, by rw [decide_eq_true rfl]; exact h⟩
/-- data that shows itself alike -/
def Shw (d : PyData) : Prop := Sz 180 d ∧ PyData.eqv d d = true ∧ d.showable = true ∧ d.shown.length ≤ 16777216
def sp_law_same : Sp := sp2 fun x y H Q _ => ∃ ds, TD H x (.tuple ds) ∧ TD H y (.tuple ds) ∧ Shw (.tuple ds) ∧ Q (.bl true) H
theorem ok_law_same (T : Txt w K mg) {fd : FuncData} (F : Fn_law_same K fd) (hm : mg "_law_same" = some (.ref (He.ga K "_law_same")))  : CalG P w K mg base CX0 1 "_law_same" sp_law_same := by
  refine calg0 (k := 0) F hm sc_law_same (b_law_same F) (fun _ _ _ _ h => sp2_len h) (fun cdv A outer s H vs Q E hr h => ?_)
  obtain ⟨x0, x1, rfl, h⟩ := h
  refine ⟨_, (pss_one (ps_ret (pe_and (pe_callB call_isi (by rfl) T.f_isinstance (by decide +kernel) (pa_cons (pv 0) (pa_cons (pe_bltn (v := .ty "tuple") (by rfl) T.f_tuple (by decide +kernel) rfl) pa_nil))) (pe_and (pe_cmpR (op_eqN hr.toRoom) (pv 0) (pv 1) (nomark _)) (pe_one (pe_cmpR op_eq (pe_callB (call_repr hr) (by rfl) T.f_repr (by decide +kernel) (pa_cons (pv 0) pa_nil)) (pe_callB (call_repr hr) (by rfl) T.f_repr (by decide +kernel) (pa_cons (pv 1) pa_nil)) (nomark _))))))), ?_⟩
  rw [show start ["actual", "due"] [x0, x1] = [some x0, some x1] from rfl]
  obtain ⟨ds, hx, hy, ⟨hs, he, h1, h2⟩, hQ⟩ := h
  try dsimp only [cxOf]
  walk_at "w"
  refine w_isi hx.ty_tup kit_tt ?_
  walk_at "w"
  refine d_eq hx hy hs hs ?_
  rw [he]
  walk_at "w"
  refine d_repr hx hs h1 h2 ?_
  walk_at "w"
  refine d_repr hy hs h1 h2 ?_
  refine w_eqSS ?_
  exact hQ
end
end K01

namespace K01
open PySem PySem.Spec PyProof.Rows L2 SX K02
local macro_rules | `(tactic| walk_at "w1") => `(tactic| (first
  | with_reducible refine w_seq ?_ | with_reducible refine w_asgN ?_ | with_reducible refine w_c ?_
  | ((with_reducible refine' w_var ?wv ?_); (case wv => exact rfl))
  | with_reducible refine w_op ?_ | with_reducible refine w_un ?_ | with_reducible refine w_next ?_ | with_reducible refine w_brk ?_ | with_reducible refine w_cnt ?_
  | with_reducible refine w_ifS ?_ | with_reducible refine w_if ?_ | with_reducible refine w_test ?_ | with_reducible refine w_tB ?_ | with_reducible refine w_bl ?_ | with_reducible refine w_blI ?_
  | with_reducible refine w_and ?_ | with_reducible refine w_or ?_ | with_reducible refine w_not ?_ | with_reducible refine w_andV ?_ | with_reducible refine w_orV ?_ | with_reducible refine w_notV ?_
  | with_reducible refine w_nil ?_ | with_reducible refine w_cons ?_ | with_reducible refine w_cb ?_ | with_reducible refine w_call ?_ | with_reducible refine w_callS ?_ | with_reducible refine w_chain ?_
  | with_reducible refine w_tupN ?_ | with_reducible refine w_lstN ?_ | with_reducible refine w_sl ?_ | with_reducible refine w_noPart ?_ | with_reducible refine w_part ?_ | with_reducible refine w_partI ?_
  | with_reducible refine w_ret ?_ | with_reducible refine w_retN ?_ | with_reducible refine w_drop ?_ | with_reducible refine w_asg ?_ | with_reducible refine w_gSub ?_
  | ((with_reducible refine' w_aug ?wv ?_); (case wv => exact rfl)) | with_reducible refine w_ipI ?_
  | with_reducible refine w_addI ?_ | with_reducible refine w_subI ?_ | with_reducible refine w_ltI ?_ | with_reducible refine w_leI ?_ | with_reducible refine w_gtI ?_ | with_reducible refine w_geI ?_
  | with_reducible refine w_eqI ?_ | with_reducible refine w_neI ?_ | with_reducible refine w_eqT ?_ | with_reducible refine w_neT ?_ | with_reducible refine w_inS ?_ | with_reducible refine w_ninS ?_
  | with_reducible refine w_absI ?_ | with_reducible refine w_intI ?_ | with_reducible refine w_maxI ?_ | with_reducible refine w_minI ?_
  | with_reducible refine w_for ?_ | with_reducible refine w_iR1 ?_ | with_reducible refine w_iR2 ?_ | with_reducible refine w_iStr ?_ | with_reducible refine w_strI ?_ | with_reducible refine w_iList ?_ | with_reducible refine w_iTup ?_
  | with_reducible refine w_bm ?_ | with_reducible refine w_bm0 ?_ | with_reducible refine w_t ?_ | with_reducible refine w_f ?_ | with_reducible refine w_nt ?_ | with_reducible refine w_nx ?_ | with_reducible refine w_rt ?_ | with_reducible refine w_bk ?_ | with_reducible refine w_ct ?_ | with_reducible refine w_nf ?_ | with_reducible refine w_lc ?_ | with_reducible refine w_yes ?_ | with_reducible refine w_neg ?_ | with_reducible refine w_intB ?_ | with_reducible refine w_fld ?_ | with_reducible refine w_setf ?_ | with_reducible refine w_faug ?_ | with_reducible refine w_meth ?_ | with_reducible refine w_bmS ?_ | with_reducible refine w_start ?_ | with_reducible refine w_revL ?_ | with_reducible refine w_iR3 ?_))
local macro_rules | `(tactic| walk_at "w") => `(tactic| (repeat (first | walk_at "w1" | dsimp (config := { proj := false }) only [List.set_cons_zero, List.set_cons_succ])))
section
variable {w : World} {K : PySem.W.Frag} {mg : Str → Option Value} {base : Heap}
/-- the data of a code -/
def cd (c : List PRow) : List PyData := c.map Rw.d
theorem row_d {H : Hp} {x : V} {r : PRow} (h : TD H x r.d) (ho : RowOk r) : ∃ s rest, TD H x (.tuple (.str (S s) :: rest)) ∧ (PyData.tuple (.str (S s) :: rest)) = r.d ∧ (match r with | .app => s = wAPP | .lam _ => s = wLAM | .tip (.odd _) => s = wODD | .tip (.tip _) => s ≠ wAPP ∧ s ≠ wLAM ∧ s ≠ wODD) := by
  cases r with
  | app => exact ⟨_, _, h, rfl, rfl⟩
  | lam k => exact ⟨_, _, h, rfl, rfl⟩
  | tip t =>
    cases t with
    | odd d => exact ⟨_, _, h, rfl, rfl⟩
    | tip d =>
      obtain ⟨s, r, e, h1, h2, h3⟩ := ho
      have h : TD H x d := h
      rw [e] at h
      exact ⟨s, r, h, e.symm, h1, h2, h3⟩
def stk (ts : List PTr) : List PyData := (ts.map Tr.d).reverse
theorem stk_cons (t : PTr) (ts : List PTr) : stk (t :: ts) = stk ts ++ [t.d] := by unfold stk; rw [List.map_cons, List.reverse_cons]
theorem stk_len (ts : List PTr) : (stk ts).length = ts.length := by unfold stk; rw [List.length_reverse, List.length_map]
theorem l_ixLast {K : PySem.W.Frag} {H : Hp} {Q : VK} {p : Addr} {ds : List PyData} {d : PyData} (h : DL H p (ds ++ [d])) (k : ∀ x, TD H x d → Q x H) : rIxL K (.ref p) (.int (-1)) H Q := by
  obtain ⟨xs, e, t⟩ := h
  obtain ⟨ys, x, rfl, _, t2⟩ := t.unsnoc
  exact w_ixLm (SqL.of e) (k x t2)
def arD (p : List Kd) : PyData := .tuple (p.map Kd.d)
def arsD (c : List G2) (n : Nat) : List PyData := (List.range n).map fun k => arD ((pa c k).headD [])
def pads (ps : List (List Kd)) : List PyData := (ps.map arD).reverse
theorem pads_cons (p : List Kd) (ps : List (List Kd)) : pads (p :: ps) = pads ps ++ [arD p] := by unfold pads; rw [List.map_cons, List.reverse_cons]
theorem pads_len (ps : List (List Kd)) : (pads ps).length = ps.length := by unfold pads; rw [List.length_reverse, List.length_map]
theorem arsD_succ (c : List G2) (n : Nat) : arsD c (n + 1) = arsD c n ++ [arD ((pa c n).headD [])] := by unfold arsD; rw [List.range_succ, List.map_append]; rfl
theorem arsD_len (c : List G2) (n : Nat) : (arsD c n).length = n := by unfold arsD; rw [List.length_map, List.length_range]
theorem arsD_at (c : List G2) {n k : Nat} (h : k < n) : (arsD c n)[k]? = some (arD ((pa c k).headD [])) := by
  unfold arsD; rw [List.getElem?_map, List.getElem?_range h]; rfl
/-- the data of a good code -/
def gd (c : List G2) : List PyData := cd (c.map upR)
theorem gd_at {c : List G2} {i : Nat} {r : G2} (e : c[i]? = some r) : (gd c)[i]? = some (upR r).d := by
  unfold gd cd; rw [List.getElem?_map, List.getElem?_map, e]; rfl
theorem gd_len (c : List G2) : (gd c).length = c.length := by unfold gd cd; rw [List.length_map, List.length_map]
theorem gd_ok (c : List G2) : ∀ r ∈ c.map upR, RowOk r := fun r hr => by
  obtain ⟨g, _, rfl⟩ := List.mem_map.mp hr; exact upR_ok g
/-- a good row's first word -/
def gw : G2 → List Nat
  | .app => wAPP
  | .lam _ => wLAM
  | .tip (.var _ _) => wVAR
  | .tip (.cst _ _) => wCONST
  | .tip (.bnd _) => wBOUND
theorem gw_d (r : G2) : ∃ rest, (upR r).d = .tuple (.str (S (gw r)) :: rest) := by
  cases r with
  | app => exact ⟨_, rfl⟩
  | lam k => exact ⟨_, rfl⟩
  | tip l => cases l <;> exact ⟨_, rfl⟩
theorem gw_tip (l : Lf) : gw (.tip l) ≠ wAPP ∧ gw (.tip l) ≠ wLAM := by
  cases l with
  | var w k => exact ⟨show wVAR ≠ wAPP by decide, show wVAR ≠ wLAM by decide⟩
  | cst w k => exact ⟨show wCONST ≠ wAPP by decide, show wCONST ≠ wLAM by decide⟩
  | bnd i => exact ⟨show wBOUND ≠ wAPP by decide, show wBOUND ≠ wLAM by decide⟩
theorem gd_map (c : List G2) : gd c = cd (c.map upR) := rfl
theorem up_fo {c : List G2} {t : Gt} (h : fo c = [t]) : fo (c.map upR) = [upT t] := by
  show fo (c.map (Rw.map _ _)) = _
  rw [fo_map, h]; rfl
theorem up_fok {c : List G2} {n : Nat} (h : Vc c n) : fok (c.map upR) := (Vc.map (κ' := PyData) (τ' := Tp) Kd.d (fun (l : Lf) => Tp.tip l.d) h).1

def sp_law_built : Sp := sp1 fun x H Q _ => ∃ (p : Addr) (c : List G2) (t : Gt), x = .ref p ∧ DL H p (gd c) ∧ fok c ∧ fo c = [t] ∧ c.length ≤ 50000 ∧ ∀ v H', Same H H' → TD H' v (upT t).d → Q v H'
theorem ok_law_built (T : Txt w K mg) {fd : FuncData} (F : Fn_law_built K fd) (hm : mg "_law_built" = some (.ref (He.ga K "_law_built")))  : CalX P w K mg base CX0 1 "_law_built" sp_law_built := by
  refine calx0 (k := 0) F hm sc_law_built (b_law_built F) (fun _ _ _ _ h => sp1_len h) (fun cdv A outer s H vs Q E hr h => ?_)
  obtain ⟨x0, rfl, h⟩ := h
  refine ⟨_, (pss_cons (ps_set (i := 1) sc_law_built.nd rfl (Or.inl rfl) (pe_lst pa_nil))
    (pss_cons (ps_for PassesOwn.never rfl (pi_list (pe_revL (pv 0))) (pg_name (i := 2) sc_law_built.nd rfl (Or.inl rfl))
    (pss_one (ps_if (pt_cmpR op_eq (pe_ix ix_tup (pv 2) pe_int (fun _ _ => rfl)) pe_str (nomark _))
    (pss_cons (ps_set (i := 3) sc_law_built.nd rfl (Or.inl rfl) (pe_bm0 PySem.F.plainAttrs_list PySem.F.slot_list_pop PySem.F.type_list_pop mt_pop (pv 1)))
    (pss_cons (ps_set (i := 4) sc_law_built.nd rfl (Or.inl rfl) (pe_bm0 PySem.F.plainAttrs_list PySem.F.slot_list_pop PySem.F.type_list_pop mt_pop (pv 1)))
    (pss_one (ps_expr (pe_bm PySem.F.plainAttrs_list PySem.F.slot_list_append PySem.F.type_list_append mt_append (pv 1) (pa_cons (pe_tup (pa_cons pe_str (pa_cons (pv 3) (pa_cons (pv 4) pa_nil)))) pa_nil))))))
    (pss_one (ps_if (pt_cmpR op_eq (pe_ix ix_tup (pv 2) pe_int (fun _ _ => rfl)) pe_str (nomark _))
    (pss_cons (ps_set (i := 5) sc_law_built.nd rfl (Or.inl rfl) (pe_bm0 PySem.F.plainAttrs_list PySem.F.slot_list_pop PySem.F.type_list_pop mt_pop (pv 1)))
    (pss_one (ps_expr (pe_bm PySem.F.plainAttrs_list PySem.F.slot_list_append PySem.F.type_list_append mt_append (pv 1) (pa_cons (pe_tup (pa_cons pe_str (pa_cons (pe_ix ix_tup (pv 2) pe_int (fun _ _ => rfl)) (pa_cons (pv 5) pa_nil)))) pa_nil)))))
    (pss_one (ps_expr (pe_bm PySem.F.plainAttrs_list PySem.F.slot_list_append PySem.F.type_list_append mt_append (pv 1) (pa_cons (pv 2) pa_nil)))))))))
    (pss_one (ps_ret (pe_ix ix_list (pv 1) (pe_un un_neg pe_int) (fun _ _ => rfl)))))), ?_⟩
  rw [show start ["code", "stack", "row", "function", "argument", "inner"] [x0] = [some x0, none, none, none, none, none] from rfl]
  have ec0 : Str.ofString "app" = S [97,112,112] := S_ofs (by decide +kernel)
  have ec1 : Str.ofString "lam" = S [108,97,109] := S_ofs (by decide +kernel)
  rw [ec0, ec1]
  obtain ⟨p, c0, t0, rfl, hd0, hok0, hfo0, hz0, hQ⟩ := h
  obtain ⟨c, hc⟩ : ∃ c, c = c0.map upR := ⟨_, rfl⟩
  have hd : DL H p (cd c) := by rw [hc]; exact hd0
  have hR : ∀ r ∈ c, RowOk r := by rw [hc]; exact gd_ok c0
  have hok : fok c := by rw [hc]; exact up_fok (n := 1) ⟨hok0, by rw [hfo0]; rfl⟩
  obtain ⟨t, ht⟩ : ∃ t, t = upT t0 := ⟨_, rfl⟩
  have hfo : fo c = [t] := by rw [hc, ht]; exact up_fo hfo0
  have hz : c.length ≤ 50000 := by rw [hc, List.length_map]; exact hz0
  rw [← ht] at hQ
  have hno : ∀ d, Rw.tip (Tp.odd d) ∉ c := fun d z => by
    rw [hc] at z
    obtain ⟨g, _, e⟩ := List.mem_map.mp z
    cases g with
    | app => cases e
    | lam k => cases e
    | tip l => cases e
  try dsimp only [cxOf]
  walk_at "w"
  refine n_L (fun st H1 hst s1 e1 => ?_)
  walk_at "w"
  obtain ⟨xs0, e0, t0⟩ := hd.same s1
  refine ⟨p, xs0, rfl, SqL.of e0, fun rv hrv => ?_⟩
  have s2 := same_upd (o := .lst xs0.reverse) hrv
  have er : upd H1 rv (.lst xs0.reverse) rv = some (.lst xs0.reverse) := upd_same
  have tr := t0.rev.tm (Tm.same s2)
  generalize upd H1 rv (.lst xs0.reverse) = H2 at s2 er tr ⊢
  generalize xs0.reverse = xs at er tr
  have lx := tr.len
  have lx : xs.length = c.length := by rw [lx]; unfold cd; rw [List.length_reverse, List.length_map]
  have hst2 : H2 st = some (.lst []) := s2 _ _ e1
  have hne : rv ≠ st := fun z => by rw [z] at hrv; rw [e1] at hrv; cases hrv
  refine w_lstI (SqL.of er) ?_
  refine for_list (xs := xs) (fun i σ H' => ∃ (v1 v2 v3 v4 : Option V), σ = [some (.ref p), some (.ref st), v1, v2, v3, v4] ∧ Same H H' ∧ H' rv = some (.lst xs) ∧ TDs H' xs (cd c).reverse ∧ DL H' st (stk (fo (c.drop (c.length - i)))))
    ⟨_, _, _, _, rfl, s1.tr s2, er, tr, ⟨[], hst2, by rw [show c.length - 0 = c.length from rfl, List.drop_length]; exact .nil⟩⟩ (fun i σ H' _ h => by obtain ⟨_, _, _, _, _, _, h, _⟩ := h; exact SqL.of h) ?_ ?_
  · rintro i x σ H3 hx ⟨v1, v2, v3, v4, rfl, s3, e3, t3, d3⟩
    have hi : i < c.length := by rw [← lx]; exact (List.getElem?_eq_some_iff.mp hx).1
    obtain ⟨k, hk⟩ : ∃ k, k = c.length - (i + 1) := ⟨_, rfl⟩
    have hk1 : c.length - i = k + 1 := by omega
    rw [hk1] at d3
    have hkl : k < c.length := by omega
    have ek : c[k]? = some c[k] := List.getElem?_eq_getElem hkl
    have hRk := hR _ (List.getElem_mem hkl)
    obtain ⟨d, ed, td⟩ := t3.get' hx
    have ed : d = c[k].d := by
      unfold cd at ed
      rw [List.getElem?_reverse (by rw [List.length_map]; exact hi), List.length_map, List.getElem?_map, show c.length - 1 - i = k by omega, ek] at ed
      exact (Option.some.inj ed).symm
    subst ed
    rw [← hk]
    generalize c[k] = r at ek hRk td
    have hfl := fo_len hok (k + 1)
    have next : ∀ {H' : Hp} {u1 u2 u3 u4 : Option V}, Same H H' → H' rv = some (.lst xs) → TDs H' xs (cd c).reverse → DL H' st (stk (fo (c.drop k))) → ∃ (w1 w2 w3 w4 : Option V), [some (.ref p), some (.ref st), u1, u2, u3, u4] = [some (.ref p), some (.ref st), w1, w2, w3, w4] ∧ Same H H' ∧ H' rv = some (.lst xs) ∧ TDs H' xs (cd c).reverse ∧ DL H' st (stk (fo (c.drop k))) :=
      fun q1 q2 q3 q4 => ⟨_, _, _, _, rfl, q1, q2, q3, q4⟩
    have hs0 : H st = none := hst
    obtain ⟨s, rest, tdx, erd, hm⟩ := row_d td hRk
    dsimp only [gName]
    walk_at "w"
    refine t_ixS (n := 0) tdx rfl ?_
    walk_at "w"
    cases r with
    | app =>
      have hm : s = wAPP := hm
      subst hm
      obtain ⟨f, a, ts, q1, q2⟩ := at_app hok ek
      rw [q1, stk_cons, stk_cons] at d3
      rw [q1] at hfl
      rw [decide_eq_true rfl]
      walk_at "w"
      refine l_ty d3 ?_
      walk_at "w"
      refine l_pop d3 (fun y1 H4 ty1 d4 x4 => ?_)
      walk_at "w"
      refine l_ty d4 ?_
      walk_at "w"
      refine l_pop d4 (fun y2 H5 ty2 d5 x5 => ?_)
      walk_at "w"
      refine l_ty d5 ?_
      walk_at "w"
      refine t_new (ds := [.str (S wAPP), f.d, a.d]) (.cons (.str _) (.cons (ty1.tm (d4.tm_ex x5)) (.cons ty2 .nil))) (fun p6 H6 hp6 s6 t6 => ?_)
      walk_at "w"
      refine l_app (d5.same s6) t6 (fun H7 d7 x7 => ?_) (by rw [stk_len]; have : ts.length + 1 + 1 ≤ c.length - (k + 1) := hfl; omega)
      walk_at "w"
      have tm7 : Tm H3 H7 := (((d3.tm_ex x4).tr (d4.tm_ex x5)).tr (Tm.same s6)).tr ((d5.same s6).tm_ex x7)
      refine next ((((s3.ex hs0 x4).ex hs0 x5).tr s6).ex hs0 x7) ?_ (t3.tm tm7) ?_
      · rw [x7 rv hne]; refine s6 _ _ ?_; rw [x5 rv hne, x4 rv hne]; exact e3
      · rw [q2, stk_cons]; exact d7
    | lam kk =>
      have hm : s = wLAM := hm
      subst hm
      obtain ⟨b, ts, q1, q2⟩ := at_lam hok ek
      rw [q1, stk_cons] at d3
      rw [q1] at hfl
      rw [decide_eq_false (by decide)]
      walk_at "w"
      refine t_ixS (n := 0) tdx rfl ?_
      walk_at "w"
      rw [decide_eq_true rfl]
      walk_at "w"
      refine l_ty d3 ?_
      walk_at "w"
      refine l_pop d3 (fun y1 H4 ty1 d4 x4 => ?_)
      walk_at "w"
      refine l_ty d4 ?_
      walk_at "w"
      have tdk : TD H3 x (.tuple [.str (S wLAM), kk]) := td
      refine t_ix (n := 1) (tdk.tm (d3.tm_ex x4)) rfl (fun y2 ty2 => ?_)
      walk_at "w"
      refine t_new (ds := [.str (S wLAM), kk, b.d]) (.cons (.str _) (.cons ty2 (.cons ty1 .nil))) (fun p6 H6 hp6 s6 t6 => ?_)
      walk_at "w"
      refine l_app (d4.same s6) t6 (fun H7 d7 x7 => ?_) (by rw [stk_len]; have : ts.length + 1 ≤ c.length - (k + 1) := hfl; omega)
      walk_at "w"
      have tm7 : Tm H3 H7 := ((d3.tm_ex x4).tr (Tm.same s6)).tr ((d4.same s6).tm_ex x7)
      refine next (((s3.ex hs0 x4).tr s6).ex hs0 x7) ?_ (t3.tm tm7) ?_
      · rw [x7 rv hne]; refine s6 _ _ ?_; rw [x4 rv hne]; exact e3
      · rw [q2, stk_cons]; exact d7
    | tip tp =>
      have q2 := at_tip ek
      cases tp with
      | odd d => exact absurd (List.mem_of_getElem? ek) (hno d)
      | tip d =>
        obtain ⟨m1, m2, m3⟩ := hm
        rw [decide_eq_false m1]
        walk_at "w"
        refine t_ixS (n := 0) tdx rfl ?_
        walk_at "w"
        rw [decide_eq_false m2]
        walk_at "w"
        refine l_ty d3 ?_
        walk_at "w"
        refine l_app d3 (show TD H3 x d from td) (fun H7 d7 x7 => ?_) (by rw [stk_len]; omega)
        walk_at "w"
        refine next (s3.ex hs0 x7) (by rw [x7 rv hne]; exact e3) (t3.tm (d3.tm_ex x7)) ?_
        rw [q2, stk_cons]; exact d7
  · rintro σ H3 ⟨v1, v2, v3, v4, rfl, s3, e3, t3, d3⟩
    rw [lx, Nat.sub_self, List.drop_zero, hfo, stk_cons] at d3
    walk_at "w"
    refine l_ixLast d3 (fun x tx => ?_)
    exact hQ x H3 s3 tx
end
end K01

namespace K01
open PySem PySem.Spec PyProof.Rows L2 SX K02
local macro_rules | `(tactic| walk_at "w1") => `(tactic| (first
  | with_reducible refine w_seq ?_ | with_reducible refine w_asgN ?_ | with_reducible refine w_c ?_
  | ((with_reducible refine' w_var ?wv ?_); (case wv => exact rfl))
  | with_reducible refine w_op ?_ | with_reducible refine w_un ?_ | with_reducible refine w_next ?_ | with_reducible refine w_brk ?_ | with_reducible refine w_cnt ?_
  | with_reducible refine w_ifS ?_ | with_reducible refine w_if ?_ | with_reducible refine w_test ?_ | with_reducible refine w_tB ?_ | with_reducible refine w_bl ?_ | with_reducible refine w_blI ?_
  | with_reducible refine w_and ?_ | with_reducible refine w_or ?_ | with_reducible refine w_not ?_ | with_reducible refine w_andV ?_ | with_reducible refine w_orV ?_ | with_reducible refine w_notV ?_
  | with_reducible refine w_nil ?_ | with_reducible refine w_cons ?_ | with_reducible refine w_cb ?_ | with_reducible refine w_call ?_ | with_reducible refine w_callS ?_ | with_reducible refine w_chain ?_
  | with_reducible refine w_tupN ?_ | with_reducible refine w_lstN ?_ | with_reducible refine w_sl ?_ | with_reducible refine w_noPart ?_ | with_reducible refine w_part ?_ | with_reducible refine w_partI ?_
  | with_reducible refine w_ret ?_ | with_reducible refine w_retN ?_ | with_reducible refine w_drop ?_ | with_reducible refine w_asg ?_ | with_reducible refine w_gSub ?_
  | ((with_reducible refine' w_aug ?wv ?_); (case wv => exact rfl)) | with_reducible refine w_ipI ?_
  | with_reducible refine w_addI ?_ | with_reducible refine w_subI ?_ | with_reducible refine w_ltI ?_ | with_reducible refine w_leI ?_ | with_reducible refine w_gtI ?_ | with_reducible refine w_geI ?_
  | with_reducible refine w_eqI ?_ | with_reducible refine w_neI ?_ | with_reducible refine w_eqT ?_ | with_reducible refine w_neT ?_ | with_reducible refine w_inS ?_ | with_reducible refine w_ninS ?_
  | with_reducible refine w_absI ?_ | with_reducible refine w_intI ?_ | with_reducible refine w_maxI ?_ | with_reducible refine w_minI ?_
  | with_reducible refine w_for ?_ | with_reducible refine w_iR1 ?_ | with_reducible refine w_iR2 ?_ | with_reducible refine w_iStr ?_ | with_reducible refine w_strI ?_ | with_reducible refine w_iList ?_ | with_reducible refine w_iTup ?_
  | with_reducible refine w_bm ?_ | with_reducible refine w_bm0 ?_ | with_reducible refine w_t ?_ | with_reducible refine w_f ?_ | with_reducible refine w_nt ?_ | with_reducible refine w_nx ?_ | with_reducible refine w_rt ?_ | with_reducible refine w_bk ?_ | with_reducible refine w_ct ?_ | with_reducible refine w_nf ?_ | with_reducible refine w_lc ?_ | with_reducible refine w_yes ?_ | with_reducible refine w_neg ?_ | with_reducible refine w_intB ?_ | with_reducible refine w_fld ?_ | with_reducible refine w_setf ?_ | with_reducible refine w_faug ?_ | with_reducible refine w_meth ?_ | with_reducible refine w_bmS ?_ | with_reducible refine w_start ?_ | with_reducible refine w_revL ?_ | with_reducible refine w_iR3 ?_))
local macro_rules | `(tactic| walk_at "w") => `(tactic| (repeat (first | walk_at "w1" | dsimp (config := { proj := false }) only [List.set_cons_zero, List.set_cons_succ])))
section
variable {w : World} {K : PySem.W.Frag} {mg : Str → Option Value} {base : Heap}
/-- n kinds of at most m parts -/
def KL (H : Hp) (p : Addr) (n m : Nat) : Prop := ∃ ks : List Kd, DL H p (ks.map Kd.d) ∧ ks.length = n ∧ ∀ k ∈ ks, k.ok ∧ k.sz ≤ m
abbrev PoL (H : Hp) (p : Addr) : Prop := KL H p 4 5
section
variable {n m : Nat} {H H' : Hp} {p a : Addr}
theorem KL.same (h : KL H p n m) (s : Same H H') : KL H' p n m := let ⟨ws, h1, h2⟩ := h; ⟨ws, h1.same s, h2⟩
theorem KL.kb (h : KL H p n m) (P : Pot a H) (k : Kb a H H') (z : p ≠ a) : KL H' p n m := let ⟨ws, h1, h2⟩ := h; ⟨ws, DLkb h1 P k z, h2⟩
theorem KL.ex {q : Addr} (h : KL H p n m) (x : Ex q H H') (z : p ≠ q) {xs : List V} (hq : H q = some (.lst xs)) : KL H' p n m := let ⟨ws, h1, h2⟩ := h; ⟨ws, h1.ex x z hq, h2⟩
theorem DL.ne_pot {ds : List PyData} (h : DL H p ds) (P : Pot a H) (hn : ∀ i : Int, ds[0]? ≠ some (.int i)) : p ≠ a := fun z => by
  obtain ⟨xs, e, t⟩ := h
  obtain ⟨r, s, c, h1, _⟩ := P
  subst z
  rw [h1] at e
  cases e
  obtain ⟨d, e, td⟩ := t.get' (i := 0) (x := .int r) rfl
  cases td
  exact hn _ e
theorem KL.ne (h : KL H p n m) (P : Pot a H) (hn : 0 < n) : p ≠ a := by
  obtain ⟨ks, h1, h2, h3⟩ := h
  refine DL.ne_pot h1 P fun i z => ?_
  cases ks with
  | nil => have h2 : 0 = n := h2; omega
  | cons k ks => cases k <;> simp [Kd.d] at z
theorem KL.ix {K : PySem.W.Frag} {Q : VK} (h : KL H p n m) {i : Nat} (hi : i < n) (k : ∀ x (kd : Kd), kd.ok → kd.sz ≤ m → TD H x kd.d → Q x H) : rIxL K (.ref p) (.int (i : Int)) H Q := by
  obtain ⟨ks, h1, h2, h3⟩ := h
  have hi' : i < ks.length := by omega
  refine l_ix h1 (d := ks[i].d) (by rw [List.getElem?_map, List.getElem?_eq_getElem hi']; rfl) (fun x tx => ?_)
  exact k x _ (h3 _ (List.getElem_mem hi')).1 (h3 _ (List.getElem_mem hi')).2 tx
theorem KL.app {v : V} {k : Kd} {Q : VK} (h : KL H p n m) (hv : TD H v k.d) (hk : k.ok ∧ k.sz ≤ m) (hn : n ≤ 1000) (c : ∀ H', KL H' p (n + 1) m → Ex p H H' → Q .non H') : rAppend (.ref p) [v] H Q := by
  obtain ⟨ks, h1, h2, h3⟩ := h
  refine l_app h1 hv (fun H' d x => ?_) (by rw [List.length_map]; omega)
  refine c H' ⟨ks ++ [k], by rw [List.map_append]; exact d, by rw [List.length_append, h2]; rfl, fun k' hk' => ?_⟩ x
  rcases List.mem_append.mp hk' with hk' | hk'
  · exact h3 k' hk'
  · rw [List.mem_singleton.mp hk']; exact hk
theorem KL.lst (h : KL H p n m) : ∃ xs, H p = some (.lst xs) := let ⟨_, h1, _⟩ := h; h1.lst
theorem KL.ty {F : Prop} (h : KL H p n m) (k : F) : tyV K "list" (.ref p) H ∧ F := let ⟨_, h1, _⟩ := h; l_ty h1 k
end
def sp_law_pool : Sp := sp2 fun x y H Q _ => ∃ (a p : Addr), x = .ref a ∧ y = .ref p ∧ Pot a H ∧ NmL H p ∧ ∀ q H', H q = none → PoL H' q → Pot a H' → Kb a H H' → Q (.ref q) H'
theorem ok_law_pool (T : Txt w K mg) {fd : FuncData} (F : Fn_law_pool K fd) (hm : mg "_law_pool" = some (.ref (He.ga K "_law_pool"))) (c_law_take : CalX P w K mg base CX0 1 "_law_take" sp_law_take) : CalX P w K mg base CX0 2 "_law_pool" sp_law_pool := by
  refine calx0 (k := 1) F hm sc_law_pool (b_law_pool F) (fun _ _ _ _ h => sp2_len h) (fun cdv A outer s H vs Q E hr h => ?_)
  obtain ⟨x0, x1, rfl, h⟩ := h
  refine ⟨_, (pss_cons (ps_set (i := 2) sc_law_pool.nd rfl (Or.inl rfl) (pe_lst (pa_cons (pe_tup (pa_cons pe_str (pa_cons (pe_ix ix_list (pv 1) pe_int (fun _ _ => rfl)) pa_nil))) (pa_cons (pe_tup (pa_cons pe_str (pa_cons (pe_ix ix_list (pv 1) pe_int (fun _ _ => rfl)) pa_nil))) (pa_cons (pe_tup (pa_cons pe_str (pa_cons (pe_ix ix_list (pv 1) pe_int (fun _ _ => rfl)) pa_nil))) (pa_cons (pe_tup (pa_cons pe_str (pa_cons (pe_ix ix_list (pv 1) pe_int (fun _ _ => rfl)) pa_nil))) pa_nil))))))
    (pss_cons (ps_expr (pe_bm PySem.F.plainAttrs_list PySem.F.slot_list_append PySem.F.type_list_append mt_append (pv 2) (pa_cons (pe_tup (pa_cons pe_str (pa_cons pe_str pa_nil))) pa_nil)))
    (pss_cons (ps_set (i := 3) sc_law_pool.nd rfl (Or.inl rfl) (pe_lst (pa_cons (pe_ix ix_list (pv 2) (pe_cx c_law_take hr (by decide) rfl pass0 (pa_cons (pv 0) (pa_cons pe_int pa_nil))) (fun _ _ => rfl)) pa_nil)))
    (pss_cons (ps_for PassesOwn.never rfl (pi_range1 (by rfl) T.f_range (pa_cons pe_int pa_nil)) (pg_name (i := 4) sc_law_pool.nd rfl (Or.inl rfl))
    (pss_cons (ps_set (i := 5) sc_law_pool.nd rfl (Or.inl rfl) (pe_ix ix_list (pv 2) (pe_cx c_law_take hr (by decide) rfl pass0 (pa_cons (pv 0) (pa_cons pe_int pa_nil))) (fun _ _ => rfl)))
    (pss_cons (ps_set (i := 6) sc_law_pool.nd rfl (Or.inl rfl) (pe_ix ix_list (pv 2) (pe_cx c_law_take hr (by decide) rfl pass0 (pa_cons (pv 0) (pa_cons pe_int pa_nil))) (fun _ _ => rfl)))
    (pss_cons (ps_set (i := 7) sc_law_pool.nd rfl (Or.inl rfl) (pe_cx c_law_take hr (by decide) rfl pass0 (pa_cons (pv 0) (pa_cons pe_int pa_nil))))
    (pss_one (ps_if (pt_cmpR op_eq (pv 7) pe_int (nomark _))
    (pss_one (ps_expr (pe_bm PySem.F.plainAttrs_list PySem.F.slot_list_append PySem.F.type_list_append mt_append (pv 3) (pa_cons (pe_tup (pa_cons pe_str (pa_cons (pv 5) (pa_cons (pv 6) pa_nil)))) pa_nil))))
    (pss_one (ps_if (pt_cmpR op_eq (pv 7) pe_int (nomark _))
    (pss_one (ps_expr (pe_bm PySem.F.plainAttrs_list PySem.F.slot_list_append PySem.F.type_list_append mt_append (pv 3) (pa_cons (pe_tup (pa_cons pe_str (pa_cons (pe_tup (pa_cons pe_str (pa_cons (pv 5) (pa_cons (pv 6) pa_nil)))) (pa_cons (pv 5) pa_nil)))) pa_nil))))
    (pss_one (ps_if (pt_cmpR op_eq (pv 7) pe_int (nomark _))
    (pss_one (ps_expr (pe_bm PySem.F.plainAttrs_list PySem.F.slot_list_append PySem.F.type_list_append mt_append (pv 3) (pa_cons (pe_tup (pa_cons pe_str (pa_cons (pv 5) (pa_cons (pe_tup (pa_cons pe_str (pa_cons (pv 6) (pa_cons (pv 5) pa_nil)))) pa_nil)))) pa_nil))))
    (pss_one (ps_expr (pe_bm PySem.F.plainAttrs_list PySem.F.slot_list_append PySem.F.type_list_append mt_append (pv 3) (pa_cons (pv 5) pa_nil))))))))))))))
    (pss_one (ps_ret (pv 3))))))), ?_⟩
  rw [show start ["pot", "words", "leaves", "pool", "k", "one", "other", "way"] [x0, x1] = [some x0, some x1, none, none, none, none, none, none] from rfl]
  have ec0 : Str.ofString "named" = S [110,97,109,101,100] := S_ofs (by decide +kernel)
  have ec1 : Str.ofString "free" = S [102,114,101,101] := S_ofs (by decide +kernel)
  have ec2 : Str.ofString "bool" = S [98,111,111,108] := S_ofs (by decide +kernel)
  have ec3 : Str.ofString "to" = S [116,111] := S_ofs (by decide +kernel)
  rw [ec0, ec1, ec2, ec3]
  obtain ⟨a, p, rfl, rfl, hP, hW, hQ⟩ := h
  try dsimp only [cxOf]
  walk_at "w"
  refine hW.ix (i := 0) (by omega) (fun w0 n0 => ?_)
  walk_at "w"
  refine t_new (ds := [.str (S wNAMED), .str (S w0)]) (.cons (.str _) (.cons (.str _) .nil)) (fun p1 H1 hp1 s1 t1 => ?_)
  walk_at "w"
  refine (hW.same s1).ix (i := 0) (by omega) (fun w1 n1 => ?_)
  walk_at "w"
  refine t_new (ds := [.str (S wFREE), .str (S w1)]) (.cons (.str _) (.cons (.str _) .nil)) (fun p2 H2 hp2 s2 t2 => ?_)
  walk_at "w"
  refine (hW.same (s1.tr s2)).ix (i := 1) (by omega) (fun w2 n2 => ?_)
  walk_at "w"
  refine t_new (ds := [.str (S wNAMED), .str (S w2)]) (.cons (.str _) (.cons (.str _) .nil)) (fun p3 H3 hp3 s3 t3 => ?_)
  walk_at "w"
  refine (hW.same ((s1.tr s2).tr s3)).ix (i := 2) (by omega) (fun w3 n3 => ?_)
  walk_at "w"
  refine t_new (ds := [.str (S wFREE), .str (S w3)]) (.cons (.str _) (.cons (.str _) .nil)) (fun p4 H4 hp4 s4 t4 => ?_)
  walk_at "w"
  refine l_new (ds := [Kd.nm w0, Kd.fr w1, Kd.nm w2, Kd.fr w3].map Kd.d) (.cons (t1.tm (Tm.same ((s2.tr s3).tr s4))) (.cons (t2.tm (Tm.same (s3.tr s4))) (.cons (t3.tm (Tm.same s4)) (.cons t4 .nil)))) (fun l5 H5 hl5 s5 d5 => ?_)
  walk_at "w"
  have L5 : KL H5 l5 4 1 := ⟨_, d5, rfl, fun k hk => by
    simp only [List.mem_cons, List.not_mem_nil, or_false] at hk
    rcases hk with rfl | rfl | rfl | rfl
    · exact ⟨.inl n0, Nat.le_refl _⟩
    · exact ⟨n1, Nat.le_refl _⟩
    · exact ⟨.inl n2, Nat.le_refl _⟩
    · exact ⟨n3, Nat.le_refl _⟩⟩
  have s05 := (((s1.tr s2).tr s3).tr s4).tr s5
  refine L5.ty ?_
  walk_at "w"
  refine t_new (ds := [.str (S wNAMED), .str (S wBOOL)]) (.cons (.str _) (.cons (.str _) .nil)) (fun p6 H6 hp6 s6 t6 => ?_)
  walk_at "w"
  refine (L5.same s6).app (k := .nm wBOOL) t6 ⟨.inr rfl, Nat.le_refl _⟩ (by omega) (fun H7 L7 x7 => ?_)
  walk_at "w"
  have fr : ∀ {q : Addr} {Ha Hb : Hp}, Same Ha Hb → Hb q = none → Ha q = none := fun {q Ha Hb} s z => by
    cases e : Ha q with
    | none => rfl
    | some o => rw [s q o e] at z; cases z
  have hl0 : H l5 = none := fr (((s1.tr s2).tr s3).tr s4) hl5
  have s07 := (s05.tr s6).ex hl0 x7
  have P7 := hP.same s07
  have k07 : Kb a H H7 := Kb.same s07
  refine ⟨_, _, rfl, a, 5, rfl, rfl, by omega, by omega, P7, fun v8 H8 hv8 P8 k8 => ?_⟩
  walk_at "w"
  have hla : l5 ≠ a := L7.ne P7 (by omega)
  have L8 := L7.kb P7 k8 hla
  refine L8.ix hv8 (fun x9 kd9 ok9 sz9 t9 => ?_)
  walk_at "w"
  refine l_new (ds := [kd9].map Kd.d) (.cons t9 .nil) (fun q H9 hq s9 d9 => ?_)
  walk_at "w"
  have q0 : H q = none := Kb.none (k07.tr k8) P8 hq
  have hql : l5 ≠ q := fun z => by obtain ⟨_, e⟩ := L8.lst; rw [z, hq] at e; cases e
  have K9 : KL H9 q 1 5 := ⟨[kd9], d9, rfl, fun k hk => by rw [List.mem_singleton.mp hk]; exact ⟨ok9, by omega⟩⟩
  refine w_rg1 (by omega) (by omega) ?_
  refine for_range (fun i σ H' => ∃ (v4 v5 v6 v7 : Option V), σ = [some (.ref a), some (.ref p), some (.ref l5), some (.ref q), v4, v5, v6, v7] ∧ KL H' l5 5 1 ∧ KL H' q (i + 1) 5 ∧ Pot a H' ∧ Kb a H H')
    ⟨_, _, _, _, rfl, L8.same s9, K9, P8.same s9, (k07.tr k8).then s9⟩ ?_ ?_
  · rintro i σ G hi ⟨v4, v5, v6, v7, rfl, L, Kq, P0, k0⟩
    have hi : i < 3 := hi
    dsimp only [gName]
    walk_at "w"
    refine ⟨_, _, rfl, a, 5, rfl, rfl, by omega, by omega, P0, fun va1 Ha1 hva1 Pa1 ka1 => ?_⟩
    walk_at "w"
    have La := L.kb P0 ka1 (L.ne P0 (by omega))
    have Ka := Kq.kb P0 ka1 (Kq.ne P0 (by omega))
    refine La.ix hva1 (fun xo ko oko szo to => ?_)
    walk_at "w"
    refine ⟨_, _, rfl, a, 5, rfl, rfl, by omega, by omega, Pa1, fun va2 Ha2 hva2 Pa2 ka2 => ?_⟩
    walk_at "w"
    have Lb := La.kb Pa1 ka2 (L.ne P0 (by omega))
    have Kb2 := Ka.kb Pa1 ka2 (Kq.ne P0 (by omega))
    have to2 := to.tm (Kb.pot_tm Pa1 ka2)
    refine Lb.ix hva2 (fun xh kh okh szh th => ?_)
    walk_at "w"
    refine ⟨_, _, rfl, a, 4, rfl, rfl, by omega, by omega, Pa2, fun va3 Ha3 hva3 Pa3 ka3 => ?_⟩
    walk_at "w"
    have Lc := Lb.kb Pa2 ka3 (L.ne P0 (by omega))
    have Kc := Kb2.kb Pa2 ka3 (Kq.ne P0 (by omega))
    have to3 := to2.tm (Kb.pot_tm Pa2 ka3)
    have th3 := th.tm (Kb.pot_tm Pa2 ka3)
    have k3 := ((k0.tr ka1).tr ka2).tr ka3
    have hqa : q ≠ a := Kc.ne Pa3 (by omega)
    have put : ∀ {G' : Hp} {v : V} {k : Kd} {Q : VK}, Same Ha3 G' → TD G' v k.d → k.ok → k.sz ≤ 5 → (∀ H', KL H' l5 5 1 → KL H' q (i + 1 + 1) 5 → Pot a H' → Kb a H H' → Q .non H') → rAppend (.ref q) [v] G' Q := fun {G' v k Q} s tv h1 h2 hc => by
      refine (Kc.same s).app tv ⟨h1, h2⟩ (by omega) (fun H' K' x' => ?_)
      obtain ⟨_, ql⟩ := (Kc.same s).lst
      exact hc H' ((Lc.same s).ex x' hql ql) K' ((Pa3.same s).ex x' hqa.symm) ((k3.then s).ex q0 x')
    by_cases h0 : (va3 : Int) = 0
    · rw [decide_eq_true h0]
      walk_at "w"
      refine Kc.ty ?_
      walk_at "w"
      refine t_new (ds := [.str (S wTO), ko.d, kh.d]) (.cons (.str _) (.cons to3 (.cons th3 .nil))) (fun pt G1 hpt st tt => ?_)
      walk_at "w"
      refine put (k := .to ko kh) st tt ⟨oko, okh⟩ (by show ko.sz + kh.sz + 1 ≤ 5; omega) (fun H' a1 a2 a3 a4 => ?_)
      walk_at "w"
      exact ⟨_, _, _, _, rfl, a1, a2, a3, a4⟩
    rw [decide_eq_false h0]
    walk_at "w"
    by_cases h1 : (va3 : Int) = 1
    · rw [decide_eq_true h1]
      walk_at "w"
      refine Kc.ty ?_
      walk_at "w"
      refine t_new (ds := [.str (S wTO), ko.d, kh.d]) (.cons (.str _) (.cons to3 (.cons th3 .nil))) (fun pt G1 hpt st tt => ?_)
      walk_at "w"
      refine t_new (ds := [.str (S wTO), (Kd.to ko kh).d, ko.d]) (.cons (.str _) (.cons tt (.cons (to3.tm (Tm.same st)) .nil))) (fun pt2 G2 hpt2 st2 tt2 => ?_)
      walk_at "w"
      refine put (k := .to (.to ko kh) ko) (st.tr st2) tt2 ⟨⟨oko, okh⟩, oko⟩ (by show ko.sz + kh.sz + 1 + ko.sz + 1 ≤ 5; omega) (fun H' a1 a2 a3 a4 => ?_)
      walk_at "w"
      exact ⟨_, _, _, _, rfl, a1, a2, a3, a4⟩
    rw [decide_eq_false h1]
    walk_at "w"
    by_cases h2 : (va3 : Int) = 2
    · rw [decide_eq_true h2]
      walk_at "w"
      refine Kc.ty ?_
      walk_at "w"
      refine t_new (ds := [.str (S wTO), kh.d, ko.d]) (.cons (.str _) (.cons th3 (.cons to3 .nil))) (fun pt G1 hpt st tt => ?_)
      walk_at "w"
      refine t_new (ds := [.str (S wTO), ko.d, (Kd.to kh ko).d]) (.cons (.str _) (.cons (to3.tm (Tm.same st)) (.cons tt .nil))) (fun pt2 G2 hpt2 st2 tt2 => ?_)
      walk_at "w"
      refine put (k := .to ko (.to kh ko)) (st.tr st2) tt2 ⟨oko, ⟨okh, oko⟩⟩ (by show ko.sz + (kh.sz + ko.sz + 1) + 1 ≤ 5; omega) (fun H' a1 a2 a3 a4 => ?_)
      walk_at "w"
      exact ⟨_, _, _, _, rfl, a1, a2, a3, a4⟩
    rw [decide_eq_false h2]
    walk_at "w"
    refine Kc.ty ?_
    walk_at "w"
    refine put (k := ko) (Same.refl _) to3 oko (by omega) (fun H' a1 a2 a3 a4 => ?_)
    walk_at "w"
    exact ⟨_, _, _, _, rfl, a1, a2, a3, a4⟩
  · rintro σ G ⟨v4, v5, v6, v7, rfl, L, Kq, P0, k0⟩
    walk_at "w"
    exact hQ q G q0 Kq P0 k0
end
end K01

namespace K01
open PySem PySem.Spec PyProof.Rows L2 SX K02
local macro_rules | `(tactic| walk_at "w1") => `(tactic| (first
  | with_reducible refine w_seq ?_ | with_reducible refine w_asgN ?_ | with_reducible refine w_c ?_
  | ((with_reducible refine' w_var ?wv ?_); (case wv => exact rfl))
  | with_reducible refine w_op ?_ | with_reducible refine w_un ?_ | with_reducible refine w_next ?_ | with_reducible refine w_brk ?_ | with_reducible refine w_cnt ?_
  | with_reducible refine w_ifS ?_ | with_reducible refine w_if ?_ | with_reducible refine w_test ?_ | with_reducible refine w_tB ?_ | with_reducible refine w_bl ?_ | with_reducible refine w_blI ?_
  | with_reducible refine w_and ?_ | with_reducible refine w_or ?_ | with_reducible refine w_not ?_ | with_reducible refine w_andV ?_ | with_reducible refine w_orV ?_ | with_reducible refine w_notV ?_
  | with_reducible refine w_nil ?_ | with_reducible refine w_cons ?_ | with_reducible refine w_cb ?_ | with_reducible refine w_call ?_ | with_reducible refine w_callS ?_ | with_reducible refine w_chain ?_
  | with_reducible refine w_tupN ?_ | with_reducible refine w_lstN ?_ | with_reducible refine w_sl ?_ | with_reducible refine w_noPart ?_ | with_reducible refine w_part ?_ | with_reducible refine w_partI ?_
  | with_reducible refine w_ret ?_ | with_reducible refine w_retN ?_ | with_reducible refine w_drop ?_ | with_reducible refine w_asg ?_ | with_reducible refine w_gSub ?_
  | ((with_reducible refine' w_aug ?wv ?_); (case wv => exact rfl)) | with_reducible refine w_ipI ?_
  | with_reducible refine w_addI ?_ | with_reducible refine w_subI ?_ | with_reducible refine w_ltI ?_ | with_reducible refine w_leI ?_ | with_reducible refine w_gtI ?_ | with_reducible refine w_geI ?_
  | with_reducible refine w_eqI ?_ | with_reducible refine w_neI ?_ | with_reducible refine w_eqT ?_ | with_reducible refine w_neT ?_ | with_reducible refine w_inS ?_ | with_reducible refine w_ninS ?_
  | with_reducible refine w_absI ?_ | with_reducible refine w_intI ?_ | with_reducible refine w_maxI ?_ | with_reducible refine w_minI ?_
  | with_reducible refine w_for ?_ | with_reducible refine w_iR1 ?_ | with_reducible refine w_iR2 ?_ | with_reducible refine w_iStr ?_ | with_reducible refine w_strI ?_ | with_reducible refine w_iList ?_ | with_reducible refine w_iTup ?_
  | with_reducible refine w_bm ?_ | with_reducible refine w_bm0 ?_ | with_reducible refine w_t ?_ | with_reducible refine w_f ?_ | with_reducible refine w_nt ?_ | with_reducible refine w_nx ?_ | with_reducible refine w_rt ?_ | with_reducible refine w_bk ?_ | with_reducible refine w_ct ?_ | with_reducible refine w_nf ?_ | with_reducible refine w_lc ?_ | with_reducible refine w_yes ?_ | with_reducible refine w_neg ?_ | with_reducible refine w_intB ?_ | with_reducible refine w_fld ?_ | with_reducible refine w_setf ?_ | with_reducible refine w_faug ?_ | with_reducible refine w_meth ?_ | with_reducible refine w_bmS ?_ | with_reducible refine w_start ?_ | with_reducible refine w_revL ?_ | with_reducible refine w_iR3 ?_))
local macro_rules | `(tactic| walk_at "w") => `(tactic| (repeat (first | walk_at "w1" | dsimp (config := { proj := false }) only [List.set_cons_zero, List.set_cons_succ])))
section
variable {w : World} {K : PySem.W.Frag} {mg : Str → Option Value} {base : Heap}
local macro_rules | `(tactic| walk_at "v1") => `(tactic| (first
  | with_reducible refine w_seq ?_ | with_reducible refine w_asgN ?_ | with_reducible refine w_c ?_
  | ((with_reducible refine' w_var ?wv ?_); (case wv => exact rfl))
  | with_reducible refine w_op ?_ | with_reducible refine w_un ?_ | with_reducible refine w_next ?_ | with_reducible refine w_brk ?_ | with_reducible refine w_cnt ?_
  | with_reducible refine w_ifS ?_ | with_reducible refine w_if ?_ | with_reducible refine w_test ?_ | with_reducible refine w_tB ?_ | with_reducible refine w_bl ?_ | with_reducible refine w_blI ?_
  | with_reducible refine w_and ?_ | with_reducible refine w_or ?_ | with_reducible refine w_not ?_ | with_reducible refine w_andV ?_ | with_reducible refine w_orV ?_ | with_reducible refine w_notV ?_
  | with_reducible refine w_nil ?_ | with_reducible refine w_cons ?_ | with_reducible refine w_cb ?_ | with_reducible refine w_call ?_ | with_reducible refine w_callS ?_ | with_reducible refine w_chain ?_
  | with_reducible refine w_sl ?_ | with_reducible refine w_noPart ?_ | with_reducible refine w_part ?_ | with_reducible refine w_partI ?_
  | with_reducible refine w_ret ?_ | with_reducible refine w_retN ?_ | with_reducible refine w_drop ?_ | with_reducible refine w_asg ?_ | with_reducible refine w_gSub ?_
  | ((with_reducible refine' w_aug ?wv ?_); (case wv => exact rfl)) | with_reducible refine w_ipI ?_
  | with_reducible refine w_addI ?_ | with_reducible refine w_subI ?_ | with_reducible refine w_ltI ?_ | with_reducible refine w_leI ?_ | with_reducible refine w_gtI ?_ | with_reducible refine w_geI ?_
  | with_reducible refine w_eqI ?_ | with_reducible refine w_neI ?_ | with_reducible refine w_eqT ?_ | with_reducible refine w_neT ?_ | with_reducible refine w_inS ?_ | with_reducible refine w_ninS ?_
  | with_reducible refine w_absI ?_ | with_reducible refine w_intI ?_ | with_reducible refine w_maxI ?_ | with_reducible refine w_minI ?_
  | with_reducible refine w_for ?_ | with_reducible refine w_iR1 ?_ | with_reducible refine w_iR2 ?_ | with_reducible refine w_iStr ?_ | with_reducible refine w_strI ?_ | with_reducible refine w_iList ?_ | with_reducible refine w_iTup ?_
  | with_reducible refine w_bm ?_ | with_reducible refine w_bm0 ?_ | with_reducible refine w_t ?_ | with_reducible refine w_f ?_ | with_reducible refine w_nt ?_ | with_reducible refine w_nx ?_ | with_reducible refine w_rt ?_ | with_reducible refine w_bk ?_ | with_reducible refine w_ct ?_ | with_reducible refine w_nf ?_ | with_reducible refine w_lc ?_ | with_reducible refine w_yes ?_ | with_reducible refine w_neg ?_ | with_reducible refine w_intB ?_ | with_reducible refine w_fld ?_ | with_reducible refine w_setf ?_ | with_reducible refine w_faug ?_ | with_reducible refine w_meth ?_ | with_reducible refine w_bmS ?_ | with_reducible refine w_start ?_ | with_reducible refine w_revL ?_ | with_reducible refine w_iR3 ?_))
local macro_rules | `(tactic| walk_at "v") => `(tactic| (repeat (first | walk_at "v1" | dsimp (config := { proj := false }) only [List.set_cons_zero, List.set_cons_succ])))
local macro_rules | `(tactic| walk_at "d") => `(tactic| (repeat (first | exact eva_nil | refine eva_cons ?_ ?_ | exact ev_str | exact ev_int | exact ev_neg | refine ev_tup ?_ | (refine ev_var rfl ?_; assumption))))


/-- a list of words, all usable as constants -/
def CL (H : Hp) (p : Addr) (n : Nat) : Prop := ∃ ws : List (List Nat), DL H p (ws.map fun w => PyData.str (S w)) ∧ ws.length = n ∧ ∀ w ∈ ws, isName w = true ∨ w ∈ LOGIC
theorem CL.ix {K : PySem.W.Frag} {Q : VK} {H : Hp} {p : Addr} {n : Nat} (h : CL H p n) {i : Nat} (hi : i < n) (k : ∀ w, (isName w = true ∨ w ∈ LOGIC) → Q (.str (S w)) H) : rIxL K (.ref p) (.int (i : Int)) H Q := by
  obtain ⟨ws, h1, h2, h3⟩ := h
  have hi' : i < ws.length := by omega
  refine l_ix h1 (d := .str (S ws[i])) (by rw [List.getElem?_map, List.getElem?_eq_getElem hi']; rfl) (fun x tx => ?_)
  rw [tx.txt]
  exact k _ (h3 _ (List.getElem_mem hi'))
theorem CL.len {K : PySem.W.Frag} {Q : VK} {H : Hp} {p : Addr} {n : Nat} (h : CL H p n) (k : Q (.int (n : Int)) H) : rLenQ K [.ref p] H Q := by
  obtain ⟨ws, h1, h2, h3⟩ := h
  refine l_len h1 ?_
  rw [List.length_map, h2]; exact k
/-- the four words, told -/
def NmW (ws : List (List Nat)) (H : Hp) (p : Addr) : Prop := DL H p (ws.map fun w => PyData.str (S w)) ∧ ws.length = 4 ∧ ∀ w ∈ ws, isName w = true
section
variable {ws : List (List Nat)} {H H' : Hp} {p : Addr}
theorem NmW.same (h : NmW ws H p) (s : Same H H') : NmW ws H' p := ⟨h.1.same s, h.2⟩
theorem NmW.kb {a : Addr} (h : NmW ws H p) (P : Pot a H) (k : Kb a H H') (n : p ≠ a) : NmW ws H' p := ⟨DLkb h.1 P k n, h.2⟩
theorem NmW.ex {q : Addr} (h : NmW ws H p) (x : Ex q H H') (n : p ≠ q) {xs : List V} (hq : H q = some (.lst xs)) : NmW ws H' p := ⟨h.1.ex x n hq, h.2⟩
theorem NmW.nm (h : NmW ws H p) : NmL H p := ⟨ws, h⟩
theorem NmW.ne {a : Addr} (h : NmW ws H p) (P : Pot a H) : p ≠ a := h.nm.ne P
theorem NmW.ix {K : PySem.W.Frag} {Q : VK} (h : NmW ws H p) {i : Nat} (hi : i < 4) (k : ∀ w, isName w = true ∧ w ∈ ws → Q (.str (S w)) H) : rIxL K (.ref p) (.int (i : Int)) H Q := by
  obtain ⟨h1, h2, h3⟩ := h
  have hi' : i < ws.length := by omega
  refine l_ix h1 (d := .str (S ws[i])) (by rw [List.getElem?_map, List.getElem?_eq_getElem hi']; rfl) (fun x tx => ?_)
  rw [tx.txt]
  exact k _ ⟨h3 _ (List.getElem_mem hi'), List.getElem_mem hi'⟩
end
/-- its names are among the words -/
def lw (ws : List (List Nat)) : Lf → Prop
  | .var w _ => w ∈ ws
  | _ => True
def sp_law_tip : Sp := sp4 fun x y z u H Q _ => ∃ (a p : Addr) (k : Kd) (ar : List Kd) (ws : List (List Nat)), x = .ref a ∧ u = .ref p ∧ Pot a H ∧ NmW ws H p ∧ TD H y k.d ∧ TD H z (arD ar) ∧ GK k ∧ (∀ x ∈ ar, GK x) ∧ ar.length ≤ 1000 ∧
  ∀ v H' (l : Lf), l.ok → lw ws l → typed (.tip l) ar = some k → TD H' v l.d → Pot a H' → Kb a H H' → Q v H'
theorem GK.sz180 {k : Kd} (h : GK k) : Sz 180 k.d := Kd.Sz h.1 (by have := k.ht_sz; have := h.2; omega)
theorem ok_law_tip (T : Txt w K mg) {fd : FuncData} (F : Fn_law_tip K fd) (hm : mg "_law_tip" = some (.ref (He.ga K "_law_tip"))) (c_law_take : CalX P w K mg base CX0 1 "_law_take" sp_law_take) : CalX P w K mg base CX0 2 "_law_tip" sp_law_tip := by
  refine calx0 (k := 1) F hm sc_law_tip (b_law_tip F) (fun _ _ _ _ h => sp4_len h) (fun cdv A outer s H vs Q E hr h => ?_)
  obtain ⟨x0, x1, x2, x3, rfl, h⟩ := h
  refine ⟨_, (pss_cons (ps_setLc (i := 4) (own := [("k", 7)]) (g := gName 7) (by rfl) sc_law_tip.nd rfl rfl (sw_true rfl rfl rfl (by decide +kernel)) (pi_range1 (by rfl) T.f_range (pa_cons (pe_callB call_lenQ (by rfl) T.f_len PySem.boot_len (pa_cons (pv 2) pa_nil)) pa_nil)) (blkOk_by (own := [("k", 7)]) (N := ["pot", "kind", "around", "words", "fits", "way", "known", "k"]) (sc := defScope s_law_tip) (by decide +kernel)) (fun _ _ _ _ _ => pg_name (i := 7) sc_law_tip.nd rfl (Or.inl rfl)) (fun _ _ _ _ _ => (pts_one (pt_cmpR (r := rEqN K) (op_eqN hr) (pe_ix (r := rIxT K) ix_tup (pv 2) (pv 7) (fun _ _ => rfl)) (pv 1) (nomark _)))) (fun _ _ _ _ _ => (pv 7)))
    (pss_cons (ps_set (i := 5) sc_law_tip.nd rfl (Or.inl rfl) (pe_cx c_law_take hr (by decide) rfl pass0 (pa_cons (pv 0) (pa_cons pe_int pa_nil))))
    (pss_cons (ps_if (PW.pt (pw_and (pt_cmpR op_ltI (pv 5) pe_int (nomark _)) (pw_and1 (pt_truth (pv 4) (by intro _; rfl)))))
    (pss_one (ps_ret (pe_tup (pa_cons pe_str (pa_cons (pe_ix ix_list (pv 4) (pe_cx c_law_take hr (by decide) rfl pass0 (pa_cons (pv 0) (pa_cons (pe_callB call_lenQ (by rfl) T.f_len PySem.boot_len (pa_cons (pv 4) pa_nil)) pa_nil))) (fun _ _ => rfl)) pa_nil)))))
    pss_nil)
    (pss_cons (ps_if (pt_cmpR op_eq (pv 5) pe_int (nomark _))
    (pss_cons (ps_set (i := 6) sc_law_tip.nd rfl (Or.inl rfl) (pe_callTy call_lstQ (by rfl) T.f_list (by decide +kernel) (pa_cons (pv 3) pa_nil)))
    (Evl.pss_cut (ps_if (pt_cmpR (op_eqN hr) (pv 1) (pe_tup (pa_cons pe_str (pa_cons pe_str pa_nil))) (nomark _))
    (pss_one (ps_set (i := 6) sc_law_tip.nd rfl (Or.inl rfl) (pe_op op_cat (pv 6) (pe_lst (pa_cons pe_str (pa_cons pe_str pa_nil))))))
    pss_nil)
    (pss_one (ps_ret (pe_tup (pa_cons pe_str (pa_cons (pe_ix ix_list (pv 6) (pe_cx c_law_take hr (by decide) rfl pass0 (pa_cons (pv 0) (pa_cons (pe_callB call_lenQ (by rfl) T.f_len PySem.boot_len (pa_cons (pv 6) pa_nil)) pa_nil))) (fun _ _ => rfl)) (pa_cons (pv 1) pa_nil))))))))
    pss_nil)
    (pss_one (ps_ret (pe_tup (pa_cons pe_str (pa_cons (pe_ix ix_list (pv 3) (pe_cx c_law_take hr (by decide) rfl pass0 (pa_cons (pv 0) (pa_cons pe_int pa_nil))) (fun _ _ => rfl)) (pa_cons (pv 1) pa_nil)))))))))), ?_⟩
  rw [show start ["pot", "kind", "around", "words", "fits", "way", "known", "k"] [x0, x1, x2, x3] = [some x0, some x1, some x2, some x3, none, none, none, none] from rfl]
  have ec0 : Str.ofString "var" = S [118,97,114] := S_ofs (by decide +kernel)
  have ec1 : Str.ofString "bound" = S [98,111,117,110,100] := S_ofs (by decide +kernel)
  have ec2 : Str.ofString "const" = S [99,111,110,115,116] := S_ofs (by decide +kernel)
  have ec3 : Str.ofString "named" = S [110,97,109,101,100] := S_ofs (by decide +kernel)
  have ec4 : Str.ofString "bool" = S [98,111,111,108] := S_ofs (by decide +kernel)
  have ec5 : Str.ofString "true" = S [116,114,117,101] := S_ofs (by decide +kernel)
  have ec6 : Str.ofString "false" = S [102,97,108,115,101] := S_ofs (by decide +kernel)
  rw [ec0, ec1, ec2, ec3, ec4, ec5, ec6]
  obtain ⟨a, p, k, ar, ws, rfl, rfl, hP, hW, hk, hz, hg, har, hl, hQ⟩ := h
  try dsimp only [cxOf]
  walk_at "v"
  refine t_len hz ?_
  rw [List.length_map]
  walk_at "v"
  refine w_rg1 (by omega) (by omega) ?_
  intro D hD
  refine lc_range (fun i H' => Same H H' ∧ ∃ js : List Nat, DL H' D (js.map fun (n : Nat) => PyData.int (n : Int)) ∧ js.length ≤ i ∧ ∀ j ∈ js, ar[j]? = some k) ⟨same_upd hD, [], ⟨[], upd_same, .nil⟩, Nat.zero_le _, fun j hj => by cases hj⟩ ?_ ?_
  · rintro i H' hi ⟨sm, js, dj, hjl, hj⟩
    have hi : i < ar.length := hi
    dsimp only [gName]
    refine ⟨rfl, ?_⟩
    walk_at "v"
    rw [show (0 : Int) + (i : Int) = (i : Int) by omega]
    refine t_ix (hz.tm (Tm.same sm)) (show (ar.map Kd.d)[i]? = some ar[i].d by rw [List.getElem?_map, List.getElem?_eq_getElem hi]; rfl) (fun x tx => ?_)
    walk_at "v"
    refine d_eq tx (hk.tm (Tm.same sm)) (GK.sz180 (har _ (List.getElem_mem hi))) (GK.sz180 hg) ?_
    rw [Kd.eqv]
    walk_at "v"
    refine w_dec (fun he => ?_) (fun _ => ?_)
    · walk_at "v"
      obtain ⟨xs, e, t⟩ := dj
      have lx := t.len
      rw [List.length_map] at lx
      have ex : Ex D H' (upd H' D (.lst (xs ++ [.int (i : Int)]))) := fun b hb => upd_ne hb
      refine ⟨_, e, szl (show _ ≤ 100000 by omega), ⟨sm.ex hD ex, js ++ [i], ⟨_, upd_same, ?_⟩, by rw [List.length_append]; show js.length + 1 ≤ i + 1; omega, fun j hj' => ?_⟩⟩
      · rw [List.map_append]
        exact (t.tm (Tm.ex e ex)).snoc (.int _)
      · rcases List.mem_append.mp hj' with hj' | hj'
        · exact hj j hj'
        · rw [List.mem_singleton.mp hj', List.getElem?_eq_getElem hi, he]
    · exact ⟨sm, js, dj, by omega, hj⟩
  rintro H1 ⟨sm, js, dj, hjl, hj⟩
  walk_at "v"
  have P1 := hP.same sm
  refine ⟨_, _, rfl, a, 4, rfl, rfl, by omega, by omega, P1, fun v2 H2 hv2 P2 k2 => ?_⟩
  walk_at "v"
  have hDa : D ≠ a := hP.ne hD
  have dj2 := DLkb dj P1 k2 hDa
  have kx := (Kb.same (a := a) sm).tr k2
  have hk2 := hk.tm ((Tm.same sm).tr (Kb.pot_tm P1 k2))
  have hpa : p ≠ a := hW.ne hP
  have hW2 := (hW.same sm).kb P1 k2 hpa
  have lastV : ∀ {H3 : Hp}, Pot a H3 → Kb a H H3 → TD H3 x1 k.d → ∀ w4, (isName w4 = true ∧ w4 ∈ ws) → NewT [.str (S wVAR), .str (S w4), x1] H3 Q := fun {H3} P3 k3 tk3 w4 n4 => by
    refine t_new (ds := [.str (S wVAR), .str (S w4), k.d]) (.cons (.str _) (.cons (.str _) (.cons tk3 .nil))) (fun p5 H5 hp5 s5 t5 => ?_)
    exact hQ _ H5 (.var w4 k) ⟨n4.1, hg⟩ n4.2 rfl t5 (P3.same s5) (k3.then s5)
  have lastC : ∀ {H3 : Hp}, Pot a H3 → Kb a H H3 → TD H3 x1 k.d → ∀ w4, (isName w4 = true ∨ w4 ∈ LOGIC) → NewT [.str (S wCONST), .str (S w4), x1] H3 Q := fun {H3} P3 k3 tk3 w4 n4 => by
    refine t_new (ds := [.str (S wCONST), .str (S w4), k.d]) (.cons (.str _) (.cons (.str _) (.cons tk3 .nil))) (fun p5 H5 hp5 s5 t5 => ?_)
    exact hQ _ H5 (.cst w4 k) ⟨n4, hg⟩ trivial rfl t5 (P3.same s5) (k3.then s5)
  by_cases h1 : (v2 : Int) < 2
  · rw [decide_eq_true h1]
    walk_at "v"
    refine l_truth dj2 ?_
    rw [show decide ((js.map fun (n : Nat) => PyData.int (n : Int)) ≠ []) = decide (js ≠ []) from map_ne]
    by_cases h2 : js = []
    · rw [decide_eq_false (by simp [h2])]
      walk_at "v"
      rw [decide_eq_false (show ¬ (v2 : Int) = 2 by omega)]
      walk_at "v"
      refine w_tupN ?_
      walk_at "v"
      refine ⟨_, _, rfl, a, 4, rfl, rfl, by omega, by omega, P2, fun v4 H4 hv4 P4 k4 => ?_⟩
      refine (hW2.kb P2 k4 hpa).ix hv4 (fun w4 n4 => ?_)
      walk_at "v"
      exact lastV P4 (kx.tr k4) (hk2.tm (Kb.pot_tm P2 k4)) w4 n4
    · rw [decide_eq_true h2]
      walk_at "v"
      refine w_tupN ?_
      walk_at "v"
      refine l_len dj2 ?_
      rw [List.length_map]
      walk_at "v"
      have hjp : 0 < js.length := by
        cases js with
        | nil => exact absurd rfl h2
        | cons _ _ => exact Nat.succ_pos _
      refine ⟨_, _, rfl, a, js.length, rfl, rfl, hjp, by omega, P2, fun v4 H4 hv4 P4 k4 => ?_⟩
      refine l_ix (DLkb dj2 P2 k4 hDa) (show (js.map fun (n : Nat) => PyData.int (n : Int))[v4]? = some (.int (js[v4] : Int)) by rw [List.getElem?_map, List.getElem?_eq_getElem hv4]; rfl) (fun x tx => ?_)
      rw [tx.num]
      walk_at "v"
      refine t_new (ds := [.str (S wBOUND), .int (js[v4] : Int)]) (.cons (.str _) (.cons (.int _) .nil)) (fun p5 H5 hp5 s5 t5 => ?_)
      exact hQ _ H5 (.bnd js[v4]) trivial trivial (hj _ (List.getElem_mem hv4)) t5 (P4.same s5) ((kx.tr k4).then s5)
  rw [decide_eq_false h1]
  walk_at "v"
  by_cases h2 : (v2 : Int) = 2
  · rw [decide_eq_true h2]
    walk_at "v"
    obtain ⟨dW, hW4, hWn⟩ := hW2
    obtain ⟨xs, eW, tW⟩ := dW
    refine n_lst (SqL.of eW) (fun q H3 hq3 s3 e3 => ?_)
    have d3 : DL H3 q (ws.map fun w => PyData.str (S w)) := ⟨xs, e3, tW.tm (Tm.same s3)⟩
    have c3 : CL H3 q 4 := ⟨ws, d3, hW4, fun w hw => .inl (hWn w hw)⟩
    have hk3 := hk2.tm (Tm.same s3)
    have hqa : q ≠ a := Pot.ne P2 hq3
    walk_at "v"
    refine w_mid (fun σ H' => Same H3 H' ∧ ∃ (q' : Addr) (n : Nat), 0 < n ∧ n ≤ 6 ∧ q' ≠ a ∧ CL H' q' n ∧ σ = [some (.ref a), some x1, some x2, some (.ref p), some (.ref D), some (.int (v2 : Int)), some (.ref q'), none]) ?_ ?_
    · walk_at "v"
      refine ev_go (d := Kd.d (.nm wBOOL)) (by walk_at "d") (fun xb H4 s4 t4 => ?_)
      walk_at "v"
      refine d_eq (hk3.tm (Tm.same s4)) t4 (GK.sz180 hg) (Kd.Sz (k := .nm wBOOL) (.inr rfl) (by show 1 ≤ 180; omega)) ?_
      walk_at "v"
      refine w_b (fun _ => ?_) (fun _ => ⟨s4, q, 4, by omega, by omega, hqa, ⟨ws, d3.same s4, hW4, fun w hw => .inl (hWn w hw)⟩, rfl⟩)
      walk_at "v"
      refine ev_lst (ds := [([116,114,117,101] : List Nat), [102,97,108,115,101]].map fun w => PyData.str (S w)) (by walk_at "d") (fun l5 H5 h5 s5 d5 => ?_)
      walk_at "v"
      refine l_cat ((d3.same s4).same s5) d5 (fun l6 H6 h6 s6 d6 => ?_) (by rw [List.length_map, hW4]; show 4 + 2 ≤ 100000; omega)
      rw [← List.map_append] at d6
      have h6a : l6 ≠ a := Pot.ne (((P2.same s3).same s4).same s5) h6
      refine ⟨(s4.tr s5).tr s6, l6, 6, by omega, by omega, h6a, ⟨_, d6, by rw [List.length_append, hW4]; rfl, fun w hw => ?_⟩, rfl⟩
      rcases List.mem_append.mp hw with hw | hw
      · exact .inl (hWn w hw)
      · exact .inr (by
          have : ∀ w ∈ [([116,114,117,101] : List Nat), [102,97,108,115,101]], w ∈ LOGIC := by decide
          exact this w hw)
    rintro σ H4 ⟨s4, q', n, hn1, hn2, hq', c4, rfl⟩
    walk_at "v"
    refine w_tupN ?_
    walk_at "v"
    refine c4.len ?_
    walk_at "v"
    have P4 := (P2.same s3).same s4
    refine ⟨_, _, rfl, a, n, rfl, rfl, hn1, by omega, P4, fun v5 H5 hv5 P5 k5 => ?_⟩
    have c5 : CL H5 q' n := let ⟨ws', a1, a2, a3⟩ := c4; ⟨ws', DLkb a1 P4 k5 hq', a2, a3⟩
    refine c5.ix hv5 (fun w5 n5 => ?_)
    walk_at "v"
    exact lastC P5 ((kx.then (s3.tr s4)).tr k5) ((hk3.tm (Tm.same s4)).tm (Kb.pot_tm P4 k5)) w5 n5
  · rw [decide_eq_false h2]
    walk_at "v"
    refine w_tupN ?_
    walk_at "v"
    refine ⟨_, _, rfl, a, 4, rfl, rfl, by omega, by omega, P2, fun v4 H4 hv4 P4 k4 => ?_⟩
    refine (hW2.kb P2 k4 hpa).ix hv4 (fun w4 n4 => ?_)
    walk_at "v"
    exact lastV P4 (kx.tr k4) (hk2.tm (Kb.pot_tm P2 k4)) w4 n4
end
end K01

namespace K01
open PySem PySem.Spec PyProof.Rows L2 SX K02
local macro_rules | `(tactic| walk_at "w1") => `(tactic| (first
  | with_reducible refine w_seq ?_ | with_reducible refine w_asgN ?_ | with_reducible refine w_c ?_
  | ((with_reducible refine' w_var ?wv ?_); (case wv => exact rfl))
  | with_reducible refine w_op ?_ | with_reducible refine w_un ?_ | with_reducible refine w_next ?_ | with_reducible refine w_brk ?_ | with_reducible refine w_cnt ?_
  | with_reducible refine w_ifS ?_ | with_reducible refine w_if ?_ | with_reducible refine w_test ?_ | with_reducible refine w_tB ?_ | with_reducible refine w_bl ?_ | with_reducible refine w_blI ?_
  | with_reducible refine w_and ?_ | with_reducible refine w_or ?_ | with_reducible refine w_not ?_ | with_reducible refine w_andV ?_ | with_reducible refine w_orV ?_ | with_reducible refine w_notV ?_
  | with_reducible refine w_nil ?_ | with_reducible refine w_cons ?_ | with_reducible refine w_cb ?_ | with_reducible refine w_call ?_ | with_reducible refine w_callS ?_ | with_reducible refine w_chain ?_
  | with_reducible refine w_tupN ?_ | with_reducible refine w_lstN ?_ | with_reducible refine w_sl ?_ | with_reducible refine w_noPart ?_ | with_reducible refine w_part ?_ | with_reducible refine w_partI ?_
  | with_reducible refine w_ret ?_ | with_reducible refine w_retN ?_ | with_reducible refine w_drop ?_ | with_reducible refine w_asg ?_ | with_reducible refine w_gSub ?_
  | ((with_reducible refine' w_aug ?wv ?_); (case wv => exact rfl)) | with_reducible refine w_ipI ?_
  | with_reducible refine w_addI ?_ | with_reducible refine w_subI ?_ | with_reducible refine w_ltI ?_ | with_reducible refine w_leI ?_ | with_reducible refine w_gtI ?_ | with_reducible refine w_geI ?_
  | with_reducible refine w_eqI ?_ | with_reducible refine w_neI ?_ | with_reducible refine w_eqT ?_ | with_reducible refine w_neT ?_ | with_reducible refine w_inS ?_ | with_reducible refine w_ninS ?_
  | with_reducible refine w_absI ?_ | with_reducible refine w_intI ?_ | with_reducible refine w_maxI ?_ | with_reducible refine w_minI ?_
  | with_reducible refine w_for ?_ | with_reducible refine w_iR1 ?_ | with_reducible refine w_iR2 ?_ | with_reducible refine w_iStr ?_ | with_reducible refine w_strI ?_ | with_reducible refine w_iList ?_ | with_reducible refine w_iTup ?_
  | with_reducible refine w_bm ?_ | with_reducible refine w_bm0 ?_ | with_reducible refine w_t ?_ | with_reducible refine w_f ?_ | with_reducible refine w_nt ?_ | with_reducible refine w_nx ?_ | with_reducible refine w_rt ?_ | with_reducible refine w_bk ?_ | with_reducible refine w_ct ?_ | with_reducible refine w_nf ?_ | with_reducible refine w_lc ?_ | with_reducible refine w_yes ?_ | with_reducible refine w_neg ?_ | with_reducible refine w_intB ?_ | with_reducible refine w_fld ?_ | with_reducible refine w_setf ?_ | with_reducible refine w_faug ?_ | with_reducible refine w_meth ?_ | with_reducible refine w_bmS ?_ | with_reducible refine w_start ?_ | with_reducible refine w_revL ?_ | with_reducible refine w_iR3 ?_))
local macro_rules | `(tactic| walk_at "w") => `(tactic| (repeat (first | walk_at "w1" | dsimp (config := { proj := false }) only [List.set_cons_zero, List.set_cons_succ])))
section
variable {w : World} {K : PySem.W.Frag} {mg : Str → Option Value} {base : Heap}

abbrev E3 := Kd × List Kd × Nat
def e3 (e : E3) : PyData := .tuple [e.1.d, arD e.2.1, .int (e.2.2 : Int)]
theorem kds_any (ks : List Kd) (k : Kd) : ((ks.map Kd.d).any fun z => PyData.eqv z k.d) = decide (k ∈ ks) := by
  rw [List.any_map]
  have e : ((fun z => PyData.eqv z k.d) ∘ Kd.d) = fun v => decide (v = k) := by funext v; exact Kd.eqv v k
  rw [e]
  by_cases h : k ∈ ks
  · rw [decide_eq_true h]; exact List.any_eq_true.mpr ⟨k, h, decide_eq_true rfl⟩
  · rw [decide_eq_false h]; exact List.any_eq_false.mpr fun v hv => by simp; intro z; subst z; exact h hv
theorem kds_lay : ∀ {ks : List Kd}, (∀ k ∈ ks, k.ok ∧ k.ht ≤ 100) → PyData.canLayAll0 (ks.map Kd.d) = true ∧ PyData.depthAll (ks.map Kd.d) ≤ 100
  | [], _ => ⟨rfl, Nat.zero_le _⟩
  | k :: ks, h => by
    obtain ⟨a, b⟩ := kds_lay fun k' hk' => h k' (List.mem_cons_of_mem _ hk')
    have hk := h k List.mem_cons_self
    refine ⟨by simp only [List.map_cons, PyData.canLayAll0, k.lay hk.1, a, Bool.and_self], ?_⟩
    simp only [List.map_cons, PyData.depthAll]
    rw [k.depth]
    omega
theorem KL.sz {n m : Nat} {ks : List Kd} (h : ∀ k ∈ ks, k.ok ∧ k.sz ≤ m) (hm : m ≤ 100) : Sz 180 (.list (ks.map Kd.d)) := by
  obtain ⟨a, b⟩ := kds_lay (ks := ks) fun k hk => ⟨(h k hk).1, by have := k.ht_sz; have := (h k hk).2; omega⟩
  refine ⟨by simp only [PyData.canLay0]; exact a, ?_⟩
  simp only [PyData.depth]; omega
theorem gd_snoc (c : List G2) (r : G2) : gd (c ++ [r]) = gd c ++ [(upR r).d] := by unfold gd cd; rw [List.map_append, List.map_append]; rfl
theorem gd_ne_int {c : List G2} (i : Int) : (gd c)[0]? ≠ some (.int i) := fun z => by
  cases c with
  | nil => cases z
  | cons r c =>
    obtain ⟨rest, e⟩ := gw_d r
    have z : (upR r).d = .int i := Option.some.inj z
    rw [e] at z; cases z
theorem e3_ne_int {es : List E3} (i : Int) : (es.map e3)[0]? ≠ some (.int i) := fun z => by cases es <;> cases z
def psOf (es : List E3) : List (Kd × List Kd) := (es.map fun e => (e.1, e.2.1)).reverse
theorem psOf_snoc (es : List E3) (e : E3) : psOf (es ++ [e]) = (e.1, e.2.1) :: psOf es := by unfold psOf; rw [List.map_append, List.reverse_append]; rfl
def EOk (i : Nat) (e : E3) : Prop := e.1.ok ∧ e.1.sz ≤ 5 + 6 * e.2.2 ∧ e.2.2 ≤ 8 ∧ (∀ x ∈ e.2.1, x.ok ∧ x.sz ≤ 53) ∧ e.2.1.length ≤ i
def kw : Kd → List Nat
  | .nm _ => wNAMED
  | .fr _ => wFREE
  | .to _ _ => wTO
theorem kw_d (k : Kd) : ∃ rest, k.d = .tuple (.str (S (kw k)) :: rest) := by cases k <;> exact ⟨_, rfl⟩
theorem kw_to {k : Kd} (h : kw k = wTO) : ∃ a b, k = .to a b := by
  cases k with
  | to a b => exact ⟨a, b, rfl⟩
  | nm w => exact absurd (show wNAMED = wTO from h) (by decide)
  | fr w => exact absurd (show wFREE = wTO from h) (by decide)
/-- kinds of at most 53 nodes, variables among the words -/
def fine (ws : List (List Nat)) : G2 → Prop
  | .app => True
  | .lam k => k.sz ≤ 53
  | .tip (.var w k) => k.sz ≤ 53 ∧ w ∈ ws
  | .tip (.cst _ k) => k.sz ≤ 53
  | .tip (.bnd _) => True
theorem fine_tip {ws : List (List Nat)} {l : Lf} {ar : List Kd} {k : Kd} (h : lw ws l) (e : typed (.tip l) ar = some k) (z : k.sz ≤ 53) : fine ws (.tip l) := by
  cases l with
  | bnd i => trivial
  | var w j => cases (Option.some.inj (show some j = some k from e)); exact ⟨z, h⟩
  | cst w j => cases (Option.some.inj (show some j = some k from e)); exact z
def sp_law_grown : Sp := sp5 fun x y z u v H Q _ => ∃ (a p q : Addr) (k : Kd) (m : Nat) (ws : List (List Nat)), x = .ref a ∧ TD H y k.d ∧ z = .ref p ∧ u = .ref q ∧ v = .int (m : Int) ∧ Pot a H ∧ NmW ws H p ∧ PoL H q ∧ k.ok ∧ k.sz ≤ 53 ∧ m ≤ 50 ∧
  ∀ r H' (c : List G2), H r = none → DL H' r (gd c) → TF c [(k, [])] → (∀ r ∈ c, r.gok ∧ fine ws r) → c.length ≤ 2 * m + 1 → Pot a H' → Kb a H H' → Q (.ref r) H'
theorem ite_els {b : Bool} {X Z : Prop} (hz : Z) (hx : Z → b = true → X) : if b = true then X else Z := by
  cases b with
  | true => rw [if_pos rfl]; exact hx hz rfl
  | false => rw [if_neg Bool.false_ne_true]; exact hz
theorem ok_law_grown (T : Txt w K mg) {fd : FuncData} (F : Fn_law_grown K fd) (hm : mg "_law_grown" = some (.ref (He.ga K "_law_grown"))) (c_law_take : CalX P w K mg base CX0 1 "_law_take" sp_law_take)(c_law_tip : CalX P w K mg base CX0 2 "_law_tip" sp_law_tip) : CalX P w K mg base CX0 3 "_law_grown" sp_law_grown := by
  refine calx0 (k := 2) F hm sc_law_grown (b_law_grown F) (fun _ _ _ _ h => sp5_len h) (fun cdv A outer s H vs Q E hr h => ?_)
  obtain ⟨x0, x1, x2, x3, x4, rfl, h⟩ := h
  refine ⟨_, (pss_cons (ps_set (i := 5) sc_law_grown.nd rfl (Or.inl rfl) (pe_lst pa_nil))
    (pss_cons (ps_set (i := 6) sc_law_grown.nd rfl (Or.inl rfl) pe_int)
    (Evl.pss_cut (ps_if (pt_cmpR (op_notInN hr) (pv 1) (pv 3) rfl)
    (pss_one (ps_set (i := 6) sc_law_grown.nd rfl (Or.inl rfl) pe_int))
    pss_nil)
    (pss_cons (ps_set (i := 7) sc_law_grown.nd rfl (Or.inl rfl) (pe_lst (pa_cons (pe_tup (pa_cons (pv 1) (pa_cons (pe_tup pa_nil) (pa_cons (pv 6) pa_nil)))) pa_nil)))
    (pss_cons (ps_for PassesOwn.never rfl (pi_range1 (by rfl) T.f_range (pa_cons (pe_op op_addI (pe_op op_mulI pe_int (pv 4)) pe_int) pa_nil)) (pg_name (i := 8) sc_law_grown.nd rfl (Or.inl rfl))
    (pss_cons (ps_if (pt_not (pt_truth (pv 7) (by intro _; rfl)))
    (pss_one ps_break)
    pss_nil)
    (pss_cons (ps_asg (pe_bm0 PySem.F.plainAttrs_list PySem.F.slot_list_pop PySem.F.type_list_pop mt_pop (pv 7)) (pg_tup (by rfl) (pgs_cons (pg_name (i := 1) sc_law_grown.nd rfl (Or.inl rfl)) (pgs_cons (pg_name (i := 9) sc_law_grown.nd rfl (Or.inl rfl)) (pgs_cons (pg_name (i := 6) sc_law_grown.nd rfl (Or.inl rfl)) pgs_nil)))))
    (pss_cons (ps_set (i := 10) sc_law_grown.nd rfl (Or.inl rfl) (pe_cx c_law_take hr (by decide) rfl pass0 (pa_cons (pv 0) (pa_cons pe_int pa_nil))))
    (pss_one (ps_if (PW.pt (pw_and (pt_cmpR op_ltI (pv 8) (pv 4) (nomark _)) (pw_and (pt_cmpR op_ltI (pv 10) pe_int (nomark _)) (pw_and (pt_cmpR op_eq (pe_ix ix_tup (pv 1) pe_int (fun _ _ => rfl)) pe_str (nomark _)) (pw_and1 (pt_cmpR op_gtI (pv 10) pe_int (nomark _)))))))
    (pss_cons (ps_expr (pe_bm PySem.F.plainAttrs_list PySem.F.slot_list_append PySem.F.type_list_append mt_append (pv 5) (pa_cons (pe_tup (pa_cons pe_str (pa_cons (pe_ix ix_tup (pv 1) pe_int (fun _ _ => rfl)) pa_nil))) pa_nil)))
    (pss_one (ps_expr (pe_bm PySem.F.plainAttrs_list PySem.F.slot_list_append PySem.F.type_list_append mt_append (pv 7) (pa_cons (pe_tup (pa_cons (pe_ix ix_tup (pv 1) pe_int (fun _ _ => rfl)) (pa_cons (pe_op op_catT (pe_tup (pa_cons (pe_ix ix_tup (pv 1) pe_int (fun _ _ => rfl)) pa_nil)) (pv 9)) (pa_cons (pv 6) pa_nil)))) pa_nil)))))
    (pss_one (ps_if (PW.pt (pw_and (pt_cmpR op_ltI (pv 8) (pv 4) (nomark _)) (pw_and (pt_cmpR op_ltI (pv 10) pe_int (nomark _)) (pw_and1 (pt_cmpR op_ltI (pv 6) pe_int (nomark _))))))
    (pss_cons (ps_set (i := 11) sc_law_grown.nd rfl (Or.inl rfl) (pe_ix ix_list (pv 3) (pe_cx c_law_take hr (by decide) rfl pass0 (pa_cons (pv 0) (pa_cons pe_int pa_nil))) (fun _ _ => rfl)))
    (pss_cons (ps_expr (pe_bm PySem.F.plainAttrs_list PySem.F.slot_list_append PySem.F.type_list_append mt_append (pv 5) (pa_cons (pe_tup (pa_cons pe_str pa_nil)) pa_nil)))
    (pss_cons (ps_expr (pe_bm PySem.F.plainAttrs_list PySem.F.slot_list_append PySem.F.type_list_append mt_append (pv 7) (pa_cons (pe_tup (pa_cons (pv 11) (pa_cons (pv 9) (pa_cons pe_int pa_nil)))) pa_nil)))
    (pss_one (ps_expr (pe_bm PySem.F.plainAttrs_list PySem.F.slot_list_append PySem.F.type_list_append mt_append (pv 7) (pa_cons (pe_tup (pa_cons (pe_tup (pa_cons pe_str (pa_cons (pv 11) (pa_cons (pv 1) pa_nil)))) (pa_cons (pv 9) (pa_cons (pe_op op_addI (pv 6) pe_int) pa_nil)))) pa_nil)))))))
    (pss_one (ps_expr (pe_bm PySem.F.plainAttrs_list PySem.F.slot_list_append PySem.F.type_list_append mt_append (pv 5) (pa_cons (pe_cx c_law_tip hr (by decide) rfl pass0 (pa_cons (pv 0) (pa_cons (pv 1) (pa_cons (pv 9) (pa_cons (pv 2) pa_nil))))) pa_nil))))))))))))
    (pss_one (ps_ret (pv 5)))))))), ?_⟩
  rw [show start ["pot", "kind", "words", "pool", "most", "code", "spent", "todo", "turn", "around", "way", "other"] [x0, x1, x2, x3, x4] = [some x0, some x1, some x2, some x3, some x4, none, none, none, none, none, none, none] from rfl]
  have ec0 : Str.ofString "to" = S [116,111] := S_ofs (by decide +kernel)
  have ec1 : Str.ofString "lam" = S [108,97,109] := S_ofs (by decide +kernel)
  have ec2 : Str.ofString "app" = S [97,112,112] := S_ofs (by decide +kernel)
  rw [ec0, ec1, ec2]
  obtain ⟨a, p, q, k, m, ws, rfl, hk, rfl, rfl, rfl, hP, hW, hL, hko, hks, hm, hQ⟩ := h
  have hpa : p ≠ a := hW.ne hP
  have hqa : q ≠ a := hL.ne hP (by omega)
  try dsimp only [cxOf]
  walk_at "w"
  refine l_new (ds := gd []) .nil (fun r H1 hr1 s1 d1 => ?_)
  walk_at "w"
  refine w_mid (fun σ H' => H' = H1 ∧ ∃ sp : Nat, σ = [some (.ref a), some x1, some (.ref p), some (.ref q), some (.int (m : Int)), some (.ref r), some (.int (sp : Int)), none, none, none, none, none] ∧ k.sz ≤ 5 + 6 * sp ∧ sp ≤ 8) ?_ ?_
  · walk_at "w"
    obtain ⟨ks, hks1, hks2, hks3⟩ := hL.same s1
    refine d_ninL (hk.tm (Tm.same s1)) hks1 (Kd.Sz hko (by have := k.ht_sz; omega)) (KL.sz (n := 0) hks3 (by omega)) ?_
    rw [kds_any]
    walk_at "w"
    refine w_ndec (fun h1 => ?_) (fun h1 => ?_)
    · walk_at "w"
      exact ⟨rfl, 8, rfl, by omega, by omega⟩
    · walk_at "w"
      exact ⟨rfl, 0, rfl, by have := (hks3 k h1).2; omega, by omega⟩
  rintro σ H' ⟨rfl, sp, rfl, hsp, hsp8⟩
  walk_at "w"
  refine t_new .nil (fun p2 H2 hp2 s2 t2 => ?_)
  walk_at "w"
  refine t_new (ds := [k.d, arD [], .int (sp : Int)]) (.cons (hk.tm (Tm.same (s1.tr s2))) (.cons t2 (.cons (.int _) .nil))) (fun p3 H3 hp3 s3 t3 => ?_)
  walk_at "w"
  refine l_new (ds := [(k, ([] : List Kd), sp)].map e3) (.cons t3 .nil) (fun td H4 htd s4 d4 => ?_)
  walk_at "w"
  have fr : ∀ {q : Addr} {Ha Hb : Hp}, Same Ha Hb → Hb q = none → Ha q = none := fun {q Ha Hb} s z => by
    cases e : Ha q with
    | none => rfl
    | some o => rw [s q o e] at z; cases z
  have s13 := (s1.tr s2).tr s3
  have s14 := s13.tr s4
  have htd0 : H td = none := fr s13 htd
  have hra : r ≠ a := hP.ne hr1
  have hta : td ≠ a := hP.ne htd0
  have hrt : r ≠ td := fun z => by
    obtain ⟨_, e⟩ := d1.lst
    rw [z] at e
    rw [(s2.tr s3) _ _ e] at htd; cases htd
  have hrp : p ≠ r := fun z => by
    obtain ⟨⟨_, e, _⟩, _⟩ := hW; rw [z, hr1] at e; cases e
  have hrq : q ≠ r := fun z => by obtain ⟨_, e⟩ := hL.lst; rw [z, hr1] at e; cases e
  have htp : p ≠ td := fun z => by obtain ⟨⟨_, e, _⟩, _⟩ := hW; rw [z, htd0] at e; cases e
  have htq : q ≠ td := fun z => by obtain ⟨_, e⟩ := hL.lst; rw [z, htd0] at e; cases e
  refine w_mulI (.inr (by omega)) ?_
  walk_at "w"
  refine w_rg1 (by omega) (by omega) ?_
  rw [show ((2 : Int) * (m : Int) + 1).toNat = 2 * m + 1 by omega]
  have fin : ∀ {H' : Hp} {c : List G2} {es : List E3}, es = [] → DL H' r (gd c) → PT k c (psOf es) → (∀ r ∈ c, r.gok ∧ fine ws r) → c.length ≤ 2 * m + 1 → Pot a H' → Kb a H H' → Q (.ref r) H' := fun {H' c es} he q1 q2 q3 q5 q6 q7 => by
    subst he
    exact hQ r H' c hr1 q1 (PT.done q2) q3 (by omega) q6 q7
  refine for_range (fun i σ H' => ∃ (c : List G2) (es : List E3) (v1 v6 v8 v9 v10 v11 : Option V), σ = [some (.ref a), v1, some (.ref p), some (.ref q), some (.int (m : Int)), some (.ref r), v6, some (.ref td), v8, v9, v10, v11] ∧ DL H' r (gd c) ∧ DL H' td (es.map e3) ∧ PT k c (psOf es) ∧ (∀ r ∈ c, r.gok ∧ fine ws r) ∧ c.length ≤ i ∧ (∀ e ∈ es, EOk i e) ∧
      (i ≤ m → es.length ≤ 1 + i) ∧ (m < i → es.length + i ≤ 1 + 2 * m) ∧ NmW ws H' p ∧ PoL H' q ∧ Pot a H' ∧ Kb a H H')
    ⟨[], [(k, [], sp)], _, _, _, _, _, _, rfl, d1.same (((s2.tr s3).tr s4)), d4, PT.nil, (fun r hr => by cases hr), Nat.zero_le _, (fun e he => by rw [List.mem_singleton.mp he]; exact ⟨hko, hsp, hsp8, (fun x hx => by cases hx), Nat.zero_le _⟩), (fun _ => Nat.le_refl _), (fun z => by omega), hW.same s14, hL.same s14, hP.same s14, Kb.same s14⟩ ?_ ?_
  · rintro i σ G hi ⟨c, es, v1, v6, v8, v9, v10, v11, rfl, dc, de, pv, hg, hcl, heo, hb1, hb2, W, L, P0, k0⟩
    have hi : i < 2 * m + 1 := hi
    dsimp only [gName]
    walk_at "w"
    refine l_truth de ?_
    rw [show decide (es.map e3 ≠ []) = decide (es ≠ []) from map_ne]
    by_cases he : es = []
    · rw [decide_eq_false (by simp [he])]
      walk_at "w"
      exact fin he dc pv hg (by omega) P0 k0
    obtain ⟨es, ⟨kd, ar, s0⟩, rfl⟩ := snoc_of he
    rw [decide_eq_true he]
    walk_at "w"
    refine l_ty de ?_
    rw [List.map_append] at de
    walk_at "w"
    refine l_pop de (fun x G1 tx de1 x1' => ?_)
    obtain ⟨_, dl⟩ := de.lst
    have tm1 := de.tm_ex x1'
    have dc1 := dc.ex x1' hrt dl
    have W1 := W.ex x1' htp dl
    have L1 := L.ex x1' htq dl
    have P1 := P0.ex x1' hta.symm
    have k1 := k0.ex htd0 x1'
    obtain ⟨xa, xs, rfl, hxa, txs⟩ := tx.tuple
    obtain ⟨yk, yr, ys, rfl, tk, tr, ts⟩ := txs.three
    rw [ts.num] at hxa
    refine w_un3 rfl hxa ?_
    walk_at "w"
    obtain ⟨oko, osz, os8, oar, oal⟩ := heo (kd, ar, s0) (by simp)
    have oko : kd.ok := oko
    have osz : kd.sz ≤ 5 + 6 * s0 := osz
    have os8 : s0 ≤ 8 := os8
    have oar : ∀ x ∈ ar, x.ok ∧ x.sz ≤ 53 := oar
    have oal : ar.length ≤ i := oal
    have heo' : ∀ e ∈ es, EOk (i + 1) e := fun e' he' => by
      obtain ⟨a1, a2, a3, a4, a5⟩ := heo e' (List.mem_append_left _ he')
      exact ⟨a1, a2, a3, a4, by omega⟩
    rw [List.length_append] at hb1 hb2
    rw [psOf_snoc] at pv
    have pv : PT k c ((kd, ar) :: psOf es) := pv
    have hb1 : i ≤ m → es.length + 1 ≤ 1 + i := hb1
    have hb2 : m < i → es.length + 1 + i ≤ 1 + 2 * m := hb2
    have esl : es.length ≤ 200 := by
      by_cases z : i ≤ m
      · have := hb1 z; omega
      · have := hb2 (by omega); omega
    refine ⟨_, _, rfl, a, 6, rfl, rfl, by omega, by omega, P1, fun v2 H2 hv2 P2 k2 => ?_⟩
    walk_at "w"
    have tmk := Kb.pot_tm P1 k2
    have dc2 := DLkb dc1 P1 k2 hra
    have de2 := DLkb de1 P1 k2 hta
    have W2 := W1.kb P1 k2 hpa
    have L2' := L1.kb P1 k2 hqa
    have k02 := k1.tr k2
    have tk2 := tk.tm tmk
    have tr2 := tr.tm tmk
    have next : ∀ {H' : Hp} {u1 u6 u8 u9 u10 u11 : Option V} (c' : List G2) (es' : List E3), DL H' r (gd c') → DL H' td (es'.map e3) → PT k c' (psOf es') → (∀ r ∈ c', r.gok ∧ fine ws r) → c'.length ≤ i + 1 → (∀ e ∈ es', EOk (i + 1) e) → (es'.length ≤ es.length + 2) → (m ≤ i → es'.length ≤ es.length) → NmW ws H' p → PoL H' q → Pot a H' → Kb a H H' →
        ∃ (c : List G2) (es : List E3) (v1 v6 v8 v9 v10 v11 : Option V), [some (.ref a), u1, some (.ref p), some (.ref q), some (.int (m : Int)), some (.ref r), u6, some (.ref td), u8, u9, u10, u11] = [some (.ref a), v1, some (.ref p), some (.ref q), some (.int (m : Int)), some (.ref r), v6, some (.ref td), v8, v9, v10, v11] ∧ DL H' r (gd c) ∧ DL H' td (es.map e3) ∧ PT k c (psOf es) ∧ (∀ r ∈ c, r.gok ∧ fine ws r) ∧ c.length ≤ i + 1 ∧ (∀ e ∈ es, EOk (i + 1) e) ∧
      (i + 1 ≤ m → es.length ≤ 1 + (i + 1)) ∧ (m < i + 1 → es.length + (i + 1) ≤ 1 + 2 * m) ∧ NmW ws H' p ∧ PoL H' q ∧ Pot a H' ∧ Kb a H H' := fun {H' u1 u6 u8 u9 u10 u11} c' es' a1 a2 a3 a4 a6 a7 a8 a9 a10 a11 a12 a13 =>
      ⟨c', es', _, _, _, _, _, _, rfl, a1, a2, a3, a4, a6, a7, (fun z => by have := hb1 (by omega); omega), (fun z => by
        have h9 := a9 (by omega)
        by_cases zz : i = m
        · have := hb1 (by omega); omega
        · have := hb2 (by omega); omega), a10, a11, a12, a13⟩
    have hdc : (gd c).length ≤ 100000 := by unfold gd cd; rw [List.length_map, List.length_map]; omega
    have hde : (es.map e3).length ≤ 100000 := by rw [List.length_map]; omega
    obtain ⟨krest, ekd⟩ := kw_d kd
    have tkw : TD H2 yk (.tuple (.str (S (kw kd)) :: krest)) := by rw [← ekd]; exact tk2
    have e0 : (0 : Int) + (i : Int) = (i : Int) := by omega
    have hr2 : ∃ xs, H2 r = some (.lst xs) := dc2.lst
    have hd2 : ∃ xs, H2 td = some (.lst xs) := de2.lst
    rw [e0]
    have bS : ∀ {A B : Hp}, Same A B → (NmW ws A p ∧ PoL A q ∧ Pot a A ∧ Kb a H A) → (NmW ws B p ∧ PoL B q ∧ Pot a B ∧ Kb a H B) := fun s ⟨w, l, p0, k0⟩ => ⟨w.same s, l.same s, p0.same s, k0.then s⟩
    have bR : ∀ {A B : Hp}, Ex r A B → (∃ xs, A r = some (.lst xs)) → (NmW ws A p ∧ PoL A q ∧ Pot a A ∧ Kb a H A) → (NmW ws B p ∧ PoL B q ∧ Pot a B ∧ Kb a H B) := fun x ⟨_, e⟩ ⟨w, l, p0, k0⟩ => ⟨w.ex x hrp e, l.ex x hrq e, p0.ex x hra.symm, k0.ex hr1 x⟩
    have bT : ∀ {A B : Hp}, Ex td A B → (∃ xs, A td = some (.lst xs)) → (NmW ws A p ∧ PoL A q ∧ Pot a A ∧ Kb a H A) → (NmW ws B p ∧ PoL B q ∧ Pot a B ∧ Kb a H B) := fun x ⟨_, e⟩ ⟨w, l, p0, k0⟩ => ⟨w.ex x htp e, l.ex x htq e, p0.ex x hta.symm, k0.ex htd0 x⟩
    have b2 : NmW ws H2 p ∧ PoL H2 q ∧ Pot a H2 ∧ Kb a H H2 := ⟨W2, L2', P2, k02⟩
    have oar1 : ∀ {e : Kd}, (∀ x ∈ ar, x.ok ∧ x.sz ≤ 53) := fun x hx => oar x hx
    refine ite_els ?_ (fun hZ g1 => ?_)
    · rw [if_neg Bool.false_ne_true]
      refine w_ifS ?_
      walk_at "w"
      refine ite_els ?_ (fun hZ g1 => ?_)
      · rw [if_neg Bool.false_ne_true]
        walk_at "w"
        refine l_ty dc2 ?_
        walk_at "w"
        refine ⟨_, _, _, _, rfl, a, p, kd, ar, ws, rfl, rfl, P2, W2, tk2, tr2, ⟨oko, by have := Nat.le_trans osz (show 5 + 6 * s0 ≤ 53 by omega); omega⟩, (fun x hx => ⟨(oar x hx).1, by have := (oar x hx).2; omega⟩), by omega, fun v3 H3 l hl hlw hli t3 P3 k3 => ?_⟩
        walk_at "w"
        have dc3 := DLkb dc2 P2 k3 hra
        have de3 := DLkb de2 P2 k3 hta
        have b3 : NmW ws H3 p ∧ PoL H3 q ∧ Pot a H3 ∧ Kb a H H3 := ⟨W2.kb P2 k3 hpa, L2'.kb P2 k3 hqa, P3, k02.tr k3⟩
        refine l_app dc3 t3 (fun H4 dc4 x4 => ?_) hdc
        have b4 := bR x4 dc3.lst b3
        have de4 : DL H4 td (es.map e3) := let ⟨_, e⟩ := dc3.lst; de3.ex x4 hrt.symm e
        walk_at "w"
        refine next (c ++ [Rw.tip l]) es (by rw [gd_snoc]; exact dc4) de4 (PT.tip pv hli) (fun x hx => ?_) (by rw [List.length_append]; show c.length + 1 ≤ i + 1; omega) heo' (by omega) (fun z => Nat.le_refl _) b4.1 b4.2.1 b4.2.2.1 b4.2.2.2
        rcases List.mem_append.mp hx with hx | hx
        · exact hg x hx
        · rw [List.mem_singleton.mp hx]; exact ⟨hl, fine_tip hlw hli (by omega)⟩
      have him : i < m := by have := of_decide_eq_true g1; omega
      walk_at "w"
      refine ite_els hZ (fun _ g2 => ?_)
      walk_at "w"
      refine ite_els hZ (fun _ g3 => ?_)
      have g3 : decide ((s0 : Int) < 8) = true := g3
      have hs8 : s0 < 8 := by have := of_decide_eq_true g3; omega
      walk_at "w"
      refine ⟨_, _, rfl, a, 4, rfl, rfl, by omega, by omega, P2, fun v3 H3 hv3 P3 k3 => ?_⟩
      walk_at "w"
      refine (L2'.kb P2 k3 hqa).ix hv3 (fun xo ko oko2 szo txo => ?_)
      walk_at "w"
      have dc3 := DLkb dc2 P2 k3 hra
      have de3 := DLkb de2 P2 k3 hta
      have m3 : Tm H2 H3 := Kb.pot_tm P2 k3
      have b3 : NmW ws H3 p ∧ PoL H3 q ∧ Pot a H3 ∧ Kb a H H3 := ⟨W2.kb P2 k3 hpa, L2'.kb P2 k3 hqa, P3, k02.tr k3⟩
      refine l_ty dc3 ?_
      walk_at "w"
      refine t_new (ds := [.str (S wAPP)]) (.cons (.str _) .nil) (fun p4 H4 hp4 s4 t4 => ?_)
      walk_at "w"
      refine l_app (dc3.same s4) t4 (fun H5 dc5 x5 => ?_) hdc
      have b5 := bR x5 (dc3.same s4).lst (bS s4 b3)
      have m5 : Tm H3 H5 := (Tm.same s4).tr ((dc3.same s4).tm_ex x5)
      have de5 : DL H5 td (es.map e3) := let ⟨_, e⟩ := (dc3.same s4).lst; (de3.same s4).ex x5 hrt.symm e
      walk_at "w"
      refine l_ty de5 ?_
      walk_at "w"
      refine t_new (ds := [ko.d, arD ar, .int ((0 : Nat) : Int)]) (.cons (txo.tm m5) (.cons (tr2.tm (m3.tr m5)) (.cons (.int _) .nil))) (fun p6 H6 hp6 s6 t6 => ?_)
      walk_at "w"
      refine l_app (d := e3 (ko, ar, 0)) (de5.same s6) t6 (fun H7 de7 x7 => ?_) hde
      have b7 := bT x7 (de5.same s6).lst (bS s6 b5)
      have m7 : Tm H5 H7 := (Tm.same s6).tr ((de5.same s6).tm_ex x7)
      have dc7 : DL H7 r (gd c ++ [Rw.d (upR .app)]) := let ⟨_, e⟩ := (de5.same s6).lst; (dc5.same s6).ex x7 hrt e
      have de7 : DL H7 td ((es ++ [(ko, ar, 0)]).map e3) := by rw [List.map_append]; exact de7
      walk_at "w"
      refine l_ty de7 ?_
      walk_at "w"
      refine t_new (ds := [.str (S wTO), ko.d, kd.d]) (.cons (.str _) (.cons (txo.tm (m5.tr m7)) (.cons (tk2.tm ((m3.tr m5).tr m7)) .nil))) (fun p8 H8 hp8 s8 t8 => ?_)
      walk_at "w"
      rw [show ((s0 : Int) + 1) = ((s0 + 1 : Nat) : Int) by omega]
      refine t_new (ds := [Kd.d (.to ko kd), arD ar, .int ((s0 + 1 : Nat) : Int)]) (.cons t8 (.cons (tr2.tm (((m3.tr m5).tr m7).tr (Tm.same s8))) (.cons (.int _) .nil))) (fun p9 H9 hp9 s9 t9 => ?_)
      walk_at "w"
      have s79 := s8.tr s9
      refine l_app (d := e3 (.to ko kd, ar, s0 + 1)) (de7.same s79) t9 (fun H10 de10 x10 => ?_) (by rw [List.length_map, List.length_append]; show es.length + 1 ≤ 100000; omega)
      have b10 := bT x10 (de7.same s79).lst (bS s79 b7)
      have dc10 : DL H10 r (gd c ++ [Rw.d (upR .app)]) := let ⟨_, e⟩ := (de7.same s79).lst; (dc7.same s79).ex x10 hrt e
      walk_at "w"
      have ele : ((es ++ [(ko, ar, 0)]) ++ [((.to ko kd : Kd), ar, s0 + 1)]).length = es.length + 2 := by rw [List.length_append, List.length_append]; rfl
      refine next (c ++ [.app]) ((es ++ [(ko, ar, 0)]) ++ [(.to ko kd, ar, s0 + 1)]) (by rw [gd_snoc]; exact dc10) (by rw [List.map_append]; exact de10) (by rw [psOf_snoc, psOf_snoc]; exact PT.app pv) (fun x hx => ?_) (by rw [List.length_append]; show c.length + 1 ≤ i + 1; omega) (fun e he => ?_) (by omega) (fun z => by omega) b10.1 b10.2.1 b10.2.2.1 b10.2.2.2
      · rcases List.mem_append.mp hx with hx | hx
        · exact hg x hx
        · rw [List.mem_singleton.mp hx]; exact ⟨trivial, trivial⟩
      · rcases List.mem_append.mp he with he | he
        · rcases List.mem_append.mp he with he | he
          · exact heo' e he
          · rw [List.mem_singleton.mp he]
            exact ⟨oko2, by show ko.sz ≤ 5 + 6 * 0; omega, Nat.zero_le _, oar, by show ar.length ≤ i + 1; omega⟩
        · rw [List.mem_singleton.mp he]
          exact ⟨⟨oko2, oko⟩, by show ko.sz + kd.sz + 1 ≤ 5 + 6 * (s0 + 1); omega, by show s0 + 1 ≤ 8; omega, oar, by show ar.length ≤ i + 1; omega⟩
    walk_at "w"
    refine ite_els hZ (fun _ g2 => ?_)
    walk_at "w"
    refine t_ixS (n := 0) tkw rfl ?_
    walk_at "w"
    refine ite_els hZ (fun _ g3 => ?_)
    walk_at "w"
    refine ite_els hZ (fun _ g4 => ?_)
    obtain ⟨ka, kb, rfl⟩ := kw_to (of_decide_eq_true g3)
    have tk2 : TD H2 yk (.tuple [.str (S wTO), ka.d, kb.d]) := tk2
    have oab : ka.sz + kb.sz + 1 ≤ 5 + 6 * s0 := osz
    have him : i < m := by have := of_decide_eq_true g1; omega
    walk_at "w"
    refine l_ty dc2 ?_
    walk_at "w"
    refine t_ix (n := 1) tk2 rfl (fun xa txa => ?_)
    walk_at "w"
    refine t_new (ds := [.str (S wLAM), ka.d]) (.cons (.str _) (.cons txa .nil)) (fun p3 H3 hp3 s3 t3 => ?_)
    walk_at "w"
    refine l_app (dc2.same s3) t3 (fun H4 dc4 x4 => ?_) hdc
    have b4 := bR x4 (dc2.same s3).lst (bS s3 b2)
    have m4 : Tm H2 H4 := (Tm.same s3).tr ((dc2.same s3).tm_ex x4)
    have de4 : DL H4 td (es.map e3) := let ⟨_, e⟩ := (dc2.same s3).lst; (de2.same s3).ex x4 hrt.symm e
    walk_at "w"
    refine l_ty de4 ?_
    walk_at "w"
    refine t_ix (n := 2) (tk2.tm m4) rfl (fun xb txb => ?_)
    walk_at "w"
    refine t_ix (n := 1) (tk2.tm m4) rfl (fun xa2 txa2 => ?_)
    walk_at "w"
    refine t_new (ds := [ka.d]) (.cons txa2 .nil) (fun p5 H5 hp5 s5 t5 => ?_)
    walk_at "w"
    refine t_cat t5 ((tr2.tm m4).tm (Tm.same s5)) (by simp) (fun z6 H6 s6 t6 => ?_) (by rw [List.length_map]; show 1 + ar.length ≤ 100000; omega)
    walk_at "w"
    refine t_new (ds := [kb.d, arD (ka :: ar), .int (s0 : Int)]) (.cons (txb.tm (Tm.same (s5.tr s6))) (.cons t6 (.cons (.int _) .nil))) (fun p7 H7 hp7 s7 t7 => ?_)
    walk_at "w"
    have s47 := (s5.tr s6).tr s7
    refine l_app (d := e3 (kb, ka :: ar, s0)) (de4.same s47) t7 (fun H8 de8 x8 => ?_) hde
    have b8 := bT x8 (de4.same s47).lst (bS s47 b4)
    have dc8 : DL H8 r (gd c ++ [Rw.d (upR (.lam ka))]) := let ⟨_, e⟩ := (de4.same s47).lst; (dc4.same s47).ex x8 hrt e
    walk_at "w"
    refine next (c ++ [.lam ka]) (es ++ [(kb, ka :: ar, s0)]) (by rw [gd_snoc]; exact dc8) (by rw [List.map_append]; exact de8) (by rw [psOf_snoc]; exact PT.lam pv) (fun x hx => ?_) (by rw [List.length_append]; show c.length + 1 ≤ i + 1; omega) (fun e he => ?_) (by rw [List.length_append]; show es.length + 1 ≤ _; omega) (fun z => by omega) b8.1 b8.2.1 b8.2.2.1 b8.2.2.2
    · rcases List.mem_append.mp hx with hx | hx
      · exact hg x hx
      · rw [List.mem_singleton.mp hx]; exact ⟨⟨oko.1, by omega⟩, show ka.sz ≤ 53 by omega⟩
    · rcases List.mem_append.mp he with he | he
      · exact heo' e he
      · rw [List.mem_singleton.mp he]
        refine ⟨oko.2, by show kb.sz ≤ 5 + 6 * s0; omega, os8, fun x hx => ?_, by show ar.length + 1 ≤ i + 1; omega⟩
        rcases List.mem_cons.mp hx with rfl | hx
        · exact ⟨oko.1, by omega⟩
        · exact oar x hx
  · rintro σ G ⟨c, es, v1, v6, v8, v9, v10, v11, rfl, dc, de, pv, hg, hcl, heo, hb1, hb2, W, L, P0, k0⟩
    walk_at "w"
    have := hb2 (by omega)
    exact fin (List.length_eq_zero_iff.mp (by omega)) dc pv hg hcl P0 k0
end
end K01

namespace K01
open PySem PySem.Spec PyProof.Rows L2 SX K02
local macro_rules | `(tactic| walk_at "w1") => `(tactic| (first
  | with_reducible refine w_seq ?_ | with_reducible refine w_asgN ?_ | with_reducible refine w_c ?_
  | ((with_reducible refine' w_var ?wv ?_); (case wv => exact rfl))
  | with_reducible refine w_op ?_ | with_reducible refine w_un ?_ | with_reducible refine w_next ?_ | with_reducible refine w_brk ?_ | with_reducible refine w_cnt ?_
  | with_reducible refine w_ifS ?_ | with_reducible refine w_if ?_ | with_reducible refine w_test ?_ | with_reducible refine w_tB ?_ | with_reducible refine w_bl ?_ | with_reducible refine w_blI ?_
  | with_reducible refine w_and ?_ | with_reducible refine w_or ?_ | with_reducible refine w_not ?_ | with_reducible refine w_andV ?_ | with_reducible refine w_orV ?_ | with_reducible refine w_notV ?_
  | with_reducible refine w_nil ?_ | with_reducible refine w_cons ?_ | with_reducible refine w_cb ?_ | with_reducible refine w_call ?_ | with_reducible refine w_callS ?_ | with_reducible refine w_chain ?_
  | with_reducible refine w_tupN ?_ | with_reducible refine w_lstN ?_ | with_reducible refine w_sl ?_ | with_reducible refine w_noPart ?_ | with_reducible refine w_part ?_ | with_reducible refine w_partI ?_
  | with_reducible refine w_ret ?_ | with_reducible refine w_retN ?_ | with_reducible refine w_drop ?_ | with_reducible refine w_asg ?_ | with_reducible refine w_gSub ?_
  | ((with_reducible refine' w_aug ?wv ?_); (case wv => exact rfl)) | with_reducible refine w_ipI ?_
  | with_reducible refine w_addI ?_ | with_reducible refine w_subI ?_ | with_reducible refine w_ltI ?_ | with_reducible refine w_leI ?_ | with_reducible refine w_gtI ?_ | with_reducible refine w_geI ?_
  | with_reducible refine w_eqI ?_ | with_reducible refine w_neI ?_ | with_reducible refine w_eqT ?_ | with_reducible refine w_neT ?_ | with_reducible refine w_inS ?_ | with_reducible refine w_ninS ?_
  | with_reducible refine w_absI ?_ | with_reducible refine w_intI ?_ | with_reducible refine w_maxI ?_ | with_reducible refine w_minI ?_
  | with_reducible refine w_for ?_ | with_reducible refine w_iR1 ?_ | with_reducible refine w_iR2 ?_ | with_reducible refine w_iStr ?_ | with_reducible refine w_strI ?_ | with_reducible refine w_iList ?_ | with_reducible refine w_iTup ?_
  | with_reducible refine w_bm ?_ | with_reducible refine w_bm0 ?_ | with_reducible refine w_t ?_ | with_reducible refine w_f ?_ | with_reducible refine w_nt ?_ | with_reducible refine w_nx ?_ | with_reducible refine w_rt ?_ | with_reducible refine w_bk ?_ | with_reducible refine w_ct ?_ | with_reducible refine w_nf ?_ | with_reducible refine w_lc ?_ | with_reducible refine w_yes ?_ | with_reducible refine w_neg ?_ | with_reducible refine w_intB ?_ | with_reducible refine w_fld ?_ | with_reducible refine w_setf ?_ | with_reducible refine w_faug ?_ | with_reducible refine w_meth ?_ | with_reducible refine w_bmS ?_ | with_reducible refine w_start ?_ | with_reducible refine w_revL ?_ | with_reducible refine w_iR3 ?_))
local macro_rules | `(tactic| walk_at "w") => `(tactic| (repeat (first | walk_at "w1" | dsimp (config := { proj := false }) only [List.set_cons_zero, List.set_cons_succ])))
section
variable {w : World} {K : PySem.W.Frag} {mg : Str → Option Value} {base : Heap}
local macro_rules | `(tactic| walk_at "v1") => `(tactic| (first
  | with_reducible refine w_seq ?_ | with_reducible refine w_asgN ?_ | with_reducible refine w_c ?_
  | ((with_reducible refine' w_var ?wv ?_); (case wv => exact rfl))
  | with_reducible refine w_op ?_ | with_reducible refine w_un ?_ | with_reducible refine w_next ?_ | with_reducible refine w_brk ?_ | with_reducible refine w_cnt ?_
  | with_reducible refine w_ifS ?_ | with_reducible refine w_if ?_ | with_reducible refine w_test ?_ | with_reducible refine w_tB ?_ | with_reducible refine w_bl ?_ | with_reducible refine w_blI ?_
  | with_reducible refine w_and ?_ | with_reducible refine w_or ?_ | with_reducible refine w_not ?_ | with_reducible refine w_andV ?_ | with_reducible refine w_orV ?_ | with_reducible refine w_notV ?_
  | with_reducible refine w_nil ?_ | with_reducible refine w_cons ?_ | with_reducible refine w_cb ?_ | with_reducible refine w_call ?_ | with_reducible refine w_callS ?_ | with_reducible refine w_chain ?_
  | with_reducible refine w_sl ?_ | with_reducible refine w_noPart ?_ | with_reducible refine w_part ?_ | with_reducible refine w_partI ?_
  | with_reducible refine w_ret ?_ | with_reducible refine w_retN ?_ | with_reducible refine w_drop ?_ | with_reducible refine w_asg ?_ | with_reducible refine w_gSub ?_
  | ((with_reducible refine' w_aug ?wv ?_); (case wv => exact rfl)) | with_reducible refine w_ipI ?_
  | with_reducible refine w_addI ?_ | with_reducible refine w_subI ?_ | with_reducible refine w_ltI ?_ | with_reducible refine w_leI ?_ | with_reducible refine w_gtI ?_ | with_reducible refine w_geI ?_
  | with_reducible refine w_eqI ?_ | with_reducible refine w_neI ?_ | with_reducible refine w_eqT ?_ | with_reducible refine w_neT ?_ | with_reducible refine w_inS ?_ | with_reducible refine w_ninS ?_
  | with_reducible refine w_absI ?_ | with_reducible refine w_intI ?_ | with_reducible refine w_maxI ?_ | with_reducible refine w_minI ?_
  | with_reducible refine w_for ?_ | with_reducible refine w_iR1 ?_ | with_reducible refine w_iR2 ?_ | with_reducible refine w_iStr ?_ | with_reducible refine w_strI ?_ | with_reducible refine w_iList ?_ | with_reducible refine w_iTup ?_
  | with_reducible refine w_bm ?_ | with_reducible refine w_bm0 ?_ | with_reducible refine w_t ?_ | with_reducible refine w_f ?_ | with_reducible refine w_nt ?_ | with_reducible refine w_nx ?_ | with_reducible refine w_rt ?_ | with_reducible refine w_bk ?_ | with_reducible refine w_ct ?_ | with_reducible refine w_nf ?_ | with_reducible refine w_lc ?_ | with_reducible refine w_yes ?_ | with_reducible refine w_neg ?_ | with_reducible refine w_intB ?_ | with_reducible refine w_fld ?_ | with_reducible refine w_setf ?_ | with_reducible refine w_faug ?_ | with_reducible refine w_meth ?_ | with_reducible refine w_bmS ?_ | with_reducible refine w_start ?_ | with_reducible refine w_revL ?_ | with_reducible refine w_iR3 ?_))
local macro_rules | `(tactic| walk_at "v") => `(tactic| (repeat (first | walk_at "v1" | dsimp (config := { proj := false }) only [List.set_cons_zero, List.set_cons_succ])))
local macro_rules | `(tactic| walk_at "d") => `(tactic| (repeat (first | exact eva_nil | refine eva_cons ?_ ?_ | exact ev_str | exact ev_int | exact ev_neg | refine ev_tup ?_ | (refine ev_var rfl ?_; assumption))))


def natR (l : List Nat) : List PyData := (l.map fun (n : Nat) => PyData.int (n : Int)).reverse
theorem natR_cons (n : Nat) (l : List Nat) : natR (n :: l) = natR l ++ [.int (n : Int)] := by unfold natR; rw [List.map_cons, List.reverse_cons]
theorem natR_len (l : List Nat) : (natR l).length = l.length := by unfold natR; rw [List.length_reverse, List.length_map]
def natI (l : List Nat) : List PyData := l.map fun (n : Nat) => PyData.int (n : Int)
theorem natI_snoc (n : Nat) (l : List Nat) : natI (l ++ [n]) = natI l ++ [.int (n : Int)] := by unfold natI; rw [List.map_append]; rfl
theorem natI_len (l : List Nat) : (natI l).length = l.length := List.length_map ..
theorem drop_row {κ τ : Type} {c : List (Rw κ τ)} {i : Nat} {r : Rw κ τ} (e : c[i]? = some r) : c.drop i = r :: c.drop (i + 1) := drop_at e
def sp_law_levels : Sp := sp1 fun x H Q _ => ∃ (p : Addr) (c : List G2), x = .ref p ∧ DL H p (gd c) ∧ fok c ∧ (fo c).length = 1 ∧ c.length ≤ 50000 ∧ ∀ q H', H q = none → Same H H' → DL H' q (natI (lvC c [0])) → Q (.ref q) H'
theorem ok_law_levels (T : Txt w K mg) {fd : FuncData} (F : Fn_law_levels K fd) (hm : mg "_law_levels" = some (.ref (He.ga K "_law_levels")))  : CalX P w K mg base CX0 1 "_law_levels" sp_law_levels := by
  refine calx0 (k := 0) F hm sc_law_levels (b_law_levels F) (fun _ _ _ _ h => sp1_len h) (fun cdv A outer s H vs Q E hr h => ?_)
  obtain ⟨x0, rfl, h⟩ := h
  refine ⟨_, (pss_cons (ps_set (i := 1) sc_law_levels.nd rfl (Or.inl rfl) (pe_lst (pa_cons pe_int pa_nil)))
    (pss_cons (ps_set (i := 2) sc_law_levels.nd rfl (Or.inl rfl) (pe_lst pa_nil))
    (pss_cons (ps_for PassesOwn.never rfl (pi_list (pv 0)) (pg_name (i := 3) sc_law_levels.nd rfl (Or.inl rfl))
    (pss_cons (ps_set (i := 4) sc_law_levels.nd rfl (Or.inl rfl) (pe_bm0 PySem.F.plainAttrs_list PySem.F.slot_list_pop PySem.F.type_list_pop mt_pop (pv 1)))
    (pss_cons (ps_expr (pe_bm PySem.F.plainAttrs_list PySem.F.slot_list_append PySem.F.type_list_append mt_append (pv 2) (pa_cons (pv 4) pa_nil)))
    (pss_one (ps_if (pt_cmpR op_eq (pe_ix ix_tup (pv 3) pe_int (fun _ _ => rfl)) pe_str (nomark _))
    (pss_cons (ps_expr (pe_bm PySem.F.plainAttrs_list PySem.F.slot_list_append PySem.F.type_list_append mt_append (pv 1) (pa_cons (pv 4) pa_nil)))
    (pss_one (ps_expr (pe_bm PySem.F.plainAttrs_list PySem.F.slot_list_append PySem.F.type_list_append mt_append (pv 1) (pa_cons (pv 4) pa_nil)))))
    (pss_one (ps_if (pt_cmpR op_eq (pe_ix ix_tup (pv 3) pe_int (fun _ _ => rfl)) pe_str (nomark _))
    (pss_one (ps_expr (pe_bm PySem.F.plainAttrs_list PySem.F.slot_list_append PySem.F.type_list_append mt_append (pv 1) (pa_cons (pe_op op_addI (pv 4) pe_int) pa_nil))))
    pss_nil)))))))
    (pss_one (ps_ret (pv 2)))))), ?_⟩
  rw [show start ["code", "todo", "levels", "row", "level"] [x0] = [some x0, none, none, none, none] from rfl]
  have ec0 : Str.ofString "app" = S [97,112,112] := S_ofs (by decide +kernel)
  have ec1 : Str.ofString "lam" = S [108,97,109] := S_ofs (by decide +kernel)
  rw [ec0, ec1]
  obtain ⟨p, c, rfl, hd, hok, hf1, hz, hQ⟩ := h
  try dsimp only [cxOf]
  walk_at "v"
  refine ev_lst (ds := natR [0]) (by walk_at "d") (fun st H1 hst s1 d1 => ?_)
  walk_at "v"
  refine ev_lst (ds := natI []) (by walk_at "d") (fun rs H2 hrs s2 d2 => ?_)
  walk_at "v"
  obtain ⟨xs, e0, t0⟩ := hd
  have lx : xs.length = c.length := by rw [t0.len, gd_len]
  have s02 := s1.tr s2
  have hrs0 : H rs = none := s1.fresh hrs
  have hsr : st ≠ rs := fun z => by obtain ⟨_, e⟩ := d1.lst; rw [z, hrs] at e; cases e
  refine w_lstI (SqL.of (s02 _ _ e0)) ?_
  refine for_list (xs := xs) (fun i σ H' => i ≤ c.length ∧ ∃ (todo don : List Nat) (v1 v2 : Option V), σ = [some (.ref p), some (.ref st), some (.ref rs), v1, v2] ∧ Same H H' ∧ DL H' st (natR todo) ∧ DL H' rs (natI don) ∧ don ++ lvC (c.drop i) todo = lvC c [0] ∧ fok (c.drop i) ∧ (fo (c.drop i)).length = todo.length ∧ don.length = i)
    ⟨Nat.zero_le _, [0], [], _, _, rfl, s02, d1.same s2, d2, rfl, hok, hf1, rfl⟩ (fun i σ H' _ h => by obtain ⟨_, _, _, _, _, _, h, _⟩ := h; exact SqL.of (h _ _ e0)) ?_ ?_
  · rintro i x σ H3 hx ⟨_, todo, don, v1, v2, rfl, s3, dt, dr, hlv, hfk, hln, hdl⟩
    have hi : i < c.length := by rw [← lx]; exact (List.getElem?_eq_some_iff.mp hx).1
    have ek : c[i]? = some c[i] := List.getElem?_eq_getElem hi
    obtain ⟨d, ed, td⟩ := (t0.tm (Tm.same s3)).get' hx
    have ed : d = (upR c[i]).d := by rw [gd_at ek] at ed; exact (Option.some.inj ed).symm
    subst ed
    have hlen := fo_len hok i
    generalize c[i] = r at ek td
    rw [drop_row ek] at hlv hfk hln
    have hp1 := push1_len hfk.1
    have har : r.ar ≤ (fo (c.drop (i + 1))).length := hfk.1
    have hln : (push1 r (fo (c.drop (i + 1)))).length = todo.length := hln
    obtain ⟨q, ps, rfl⟩ := one_of (show 1 ≤ todo.length by omega)
    rw [List.length_cons] at hln
    have hps : ps.length ≤ 50000 := by
      have := fo_len hok (i + 1)
      have hq := fo_len hok i
      rw [drop_row ek] at hq
      have hq : (push1 r (fo (c.drop (i + 1)))).length ≤ _ := hq
      omega
    rw [natR_cons] at dt
    obtain ⟨rest, erd⟩ := gw_d r
    have tdx : TD H3 x (.tuple (.str (S (gw r)) :: rest)) := by rw [← erd]; exact td
    dsimp only [gName]
    walk_at "v"
    refine l_ty dt ?_
    walk_at "v"
    refine l_pop dt (fun y1 H4 ty1 d4 x4 => ?_)
    rw [ty1.num]
    walk_at "v"
    obtain ⟨_, dtl⟩ := dt.lst
    have dr4 := dr.ex x4 hsr.symm dtl
    refine l_ty dr4 ?_
    walk_at "v"
    refine l_app (d := .int (q : Int)) dr4 (.int _) (fun H5 d5 x5 => ?_) (by rw [natI_len]; omega)
    have d45 := let ⟨_, e⟩ := dr4.lst; d4.ex x5 hsr e
    walk_at "v"
    have tm5 := (dt.tm_ex x4).tr (dr4.tm_ex x5)
    have tdx5 := tdx.tm tm5
    have s5 := (s3.ex hst x4).ex hrs0 x5
    rw [← natI_snoc] at d5
    have hdl5 : (don ++ [q]).length = i + 1 := by rw [List.length_append, hdl]; rfl
    refine t_ixS (n := 0) tdx5 rfl ?_
    walk_at "v"
    cases r with
    | app =>
      rw [show decide (gw .app = [97, 112, 112]) = true from (show decide (wAPP = [97, 112, 112]) = true by decide)]
      walk_at "v"
      refine l_ty d45 ?_
      walk_at "v"
      refine l_app (d := .int (q : Int)) d45 (.int _) (fun H6 d6 x6 => ?_) (by rw [natR_len]; omega)
      walk_at "v"
      refine l_ty d6 ?_
      walk_at "v"
      refine l_app (d := .int (q : Int)) d6 (.int _) (fun H7 d7 x7 => ?_) (by rw [List.length_append, natR_len]; show ps.length + 1 ≤ 100000; omega)
      walk_at "v"
      have d57 := let ⟨_, e⟩ := d6.lst; (let ⟨_, e⟩ := d45.lst; d5.ex x6 hsr.symm e).ex x7 hsr.symm e
      exact ⟨hi, q :: q :: ps, _, _, _, rfl, (s5.ex hst x6).ex hst x7, by rw [natR_cons, natR_cons]; exact d7, d57, by rw [← hlv, List.append_assoc]; rfl, hfk.2, by
        have hp1 : _ + 2 = _ := hp1
        show _ = ps.length + 1 + 1; omega, hdl5⟩
    | lam kk =>
      rw [show decide (gw (.lam kk) = [97, 112, 112]) = false from (show decide (wLAM = [97, 112, 112]) = false by decide)]
      walk_at "v"
      refine t_ixS (n := 0) tdx5 rfl ?_
      walk_at "v"
      rw [show decide (gw (.lam kk) = [108, 97, 109]) = true from (show decide (wLAM = [108, 97, 109]) = true by decide)]
      walk_at "v"
      refine l_ty d45 ?_
      walk_at "v"
      refine l_app (d := .int ((q + 1 : Nat) : Int)) d45 (.int _) (fun H6 d6 x6 => ?_) (by rw [natR_len]; omega)
      walk_at "v"
      have d56 := let ⟨_, e⟩ := d45.lst; d5.ex x6 hsr.symm e
      exact ⟨hi, (q + 1) :: ps, _, _, _, rfl, s5.ex hst x6, by rw [natR_cons]; exact d6, d56, by rw [← hlv, List.append_assoc]; rfl, hfk.2, by
        have hp1 : _ + 1 = _ := hp1
        show _ = ps.length + 1; omega, hdl5⟩
    | tip l =>
      have m12 := gw_tip l
      rw [show decide (gw (.tip l) = [97, 112, 112]) = false from decide_eq_false m12.1]
      walk_at "v"
      refine t_ixS (n := 0) tdx5 rfl ?_
      walk_at "v"
      rw [show decide (gw (.tip l) = [108, 97, 109]) = false from decide_eq_false m12.2]
      walk_at "v"
      exact ⟨hi, ps, _, _, _, rfl, s5, d45, d5, by rw [← hlv, List.append_assoc]; rfl, hfk.2, by
        have hp1 : _ + 0 = _ := hp1
        omega, hdl5⟩
  · rintro σ H3 ⟨_, todo, don, v1, v2, rfl, s3, dt, dr, hlv, hfk, hln, hdl⟩
    rw [lx, List.drop_length] at hlv
    have hlv : don = lvC c [0] := by rw [← hlv]; exact (List.append_nil _).symm
    subst hlv
    walk_at "v"
    exact hQ rs H3 hrs0 s3 dr
end
end K01

namespace K01
open PySem PySem.Spec PyProof.Rows L2 SX K02
local macro_rules | `(tactic| walk_at "w1") => `(tactic| (first
  | with_reducible refine w_seq ?_ | with_reducible refine w_asgN ?_ | with_reducible refine w_c ?_
  | ((with_reducible refine' w_var ?wv ?_); (case wv => exact rfl))
  | with_reducible refine w_op ?_ | with_reducible refine w_un ?_ | with_reducible refine w_next ?_ | with_reducible refine w_brk ?_ | with_reducible refine w_cnt ?_
  | with_reducible refine w_ifS ?_ | with_reducible refine w_if ?_ | with_reducible refine w_test ?_ | with_reducible refine w_tB ?_ | with_reducible refine w_bl ?_ | with_reducible refine w_blI ?_
  | with_reducible refine w_and ?_ | with_reducible refine w_or ?_ | with_reducible refine w_not ?_ | with_reducible refine w_andV ?_ | with_reducible refine w_orV ?_ | with_reducible refine w_notV ?_
  | with_reducible refine w_nil ?_ | with_reducible refine w_cons ?_ | with_reducible refine w_cb ?_ | with_reducible refine w_call ?_ | with_reducible refine w_callS ?_ | with_reducible refine w_chain ?_
  | with_reducible refine w_tupN ?_ | with_reducible refine w_lstN ?_ | with_reducible refine w_sl ?_ | with_reducible refine w_noPart ?_ | with_reducible refine w_part ?_ | with_reducible refine w_partI ?_
  | with_reducible refine w_ret ?_ | with_reducible refine w_retN ?_ | with_reducible refine w_drop ?_ | with_reducible refine w_asg ?_ | with_reducible refine w_gSub ?_
  | ((with_reducible refine' w_aug ?wv ?_); (case wv => exact rfl)) | with_reducible refine w_ipI ?_
  | with_reducible refine w_addI ?_ | with_reducible refine w_subI ?_ | with_reducible refine w_ltI ?_ | with_reducible refine w_leI ?_ | with_reducible refine w_gtI ?_ | with_reducible refine w_geI ?_
  | with_reducible refine w_eqI ?_ | with_reducible refine w_neI ?_ | with_reducible refine w_eqT ?_ | with_reducible refine w_neT ?_ | with_reducible refine w_inS ?_ | with_reducible refine w_ninS ?_
  | with_reducible refine w_absI ?_ | with_reducible refine w_intI ?_ | with_reducible refine w_maxI ?_ | with_reducible refine w_minI ?_
  | with_reducible refine w_for ?_ | with_reducible refine w_iR1 ?_ | with_reducible refine w_iR2 ?_ | with_reducible refine w_iStr ?_ | with_reducible refine w_strI ?_ | with_reducible refine w_iList ?_ | with_reducible refine w_iTup ?_
  | with_reducible refine w_bm ?_ | with_reducible refine w_bm0 ?_ | with_reducible refine w_t ?_ | with_reducible refine w_f ?_ | with_reducible refine w_nt ?_ | with_reducible refine w_nx ?_ | with_reducible refine w_rt ?_ | with_reducible refine w_bk ?_ | with_reducible refine w_ct ?_ | with_reducible refine w_nf ?_ | with_reducible refine w_lc ?_ | with_reducible refine w_yes ?_ | with_reducible refine w_neg ?_ | with_reducible refine w_intB ?_ | with_reducible refine w_fld ?_ | with_reducible refine w_setf ?_ | with_reducible refine w_faug ?_ | with_reducible refine w_meth ?_ | with_reducible refine w_bmS ?_ | with_reducible refine w_start ?_ | with_reducible refine w_revL ?_ | with_reducible refine w_iR3 ?_))
local macro_rules | `(tactic| walk_at "w") => `(tactic| (repeat (first | walk_at "w1" | dsimp (config := { proj := false }) only [List.set_cons_zero, List.set_cons_succ])))
section
variable {w : World} {K : PySem.W.Frag} {mg : Str → Option Value} {base : Heap}
local macro_rules | `(tactic| walk_at "v1") => `(tactic| (first
  | with_reducible refine w_seq ?_ | with_reducible refine w_asgN ?_ | with_reducible refine w_c ?_
  | ((with_reducible refine' w_var ?wv ?_); (case wv => exact rfl))
  | with_reducible refine w_op ?_ | with_reducible refine w_un ?_ | with_reducible refine w_next ?_ | with_reducible refine w_brk ?_ | with_reducible refine w_cnt ?_
  | with_reducible refine w_ifS ?_ | with_reducible refine w_if ?_ | with_reducible refine w_test ?_ | with_reducible refine w_tB ?_ | with_reducible refine w_bl ?_ | with_reducible refine w_blI ?_
  | with_reducible refine w_and ?_ | with_reducible refine w_or ?_ | with_reducible refine w_not ?_ | with_reducible refine w_andV ?_ | with_reducible refine w_orV ?_ | with_reducible refine w_notV ?_
  | with_reducible refine w_nil ?_ | with_reducible refine w_cons ?_ | with_reducible refine w_cb ?_ | with_reducible refine w_call ?_ | with_reducible refine w_callS ?_ | with_reducible refine w_chain ?_
  | with_reducible refine w_sl ?_ | with_reducible refine w_noPart ?_ | with_reducible refine w_part ?_ | with_reducible refine w_partI ?_
  | with_reducible refine w_ret ?_ | with_reducible refine w_retN ?_ | with_reducible refine w_drop ?_ | with_reducible refine w_asg ?_ | with_reducible refine w_gSub ?_
  | ((with_reducible refine' w_aug ?wv ?_); (case wv => exact rfl)) | with_reducible refine w_ipI ?_
  | with_reducible refine w_addI ?_ | with_reducible refine w_subI ?_ | with_reducible refine w_ltI ?_ | with_reducible refine w_leI ?_ | with_reducible refine w_gtI ?_ | with_reducible refine w_geI ?_
  | with_reducible refine w_eqI ?_ | with_reducible refine w_neI ?_ | with_reducible refine w_eqT ?_ | with_reducible refine w_neT ?_ | with_reducible refine w_inS ?_ | with_reducible refine w_ninS ?_
  | with_reducible refine w_absI ?_ | with_reducible refine w_intI ?_ | with_reducible refine w_maxI ?_ | with_reducible refine w_minI ?_
  | with_reducible refine w_for ?_ | with_reducible refine w_iR1 ?_ | with_reducible refine w_iR2 ?_ | with_reducible refine w_iStr ?_ | with_reducible refine w_strI ?_ | with_reducible refine w_iList ?_ | with_reducible refine w_iTup ?_
  | with_reducible refine w_bm ?_ | with_reducible refine w_bm0 ?_ | with_reducible refine w_t ?_ | with_reducible refine w_f ?_ | with_reducible refine w_nt ?_ | with_reducible refine w_nx ?_ | with_reducible refine w_rt ?_ | with_reducible refine w_bk ?_ | with_reducible refine w_ct ?_ | with_reducible refine w_nf ?_ | with_reducible refine w_lc ?_ | with_reducible refine w_yes ?_ | with_reducible refine w_neg ?_ | with_reducible refine w_intB ?_ | with_reducible refine w_fld ?_ | with_reducible refine w_setf ?_ | with_reducible refine w_faug ?_ | with_reducible refine w_meth ?_ | with_reducible refine w_bmS ?_ | with_reducible refine w_start ?_ | with_reducible refine w_revL ?_ | with_reducible refine w_iR3 ?_))
local macro_rules | `(tactic| walk_at "v") => `(tactic| (repeat (first | walk_at "v1" | dsimp (config := { proj := false }) only [List.set_cons_zero, List.set_cons_succ])))
local macro_rules | `(tactic| walk_at "d") => `(tactic| (repeat (first | exact eva_nil | refine eva_cons ?_ ?_ | exact ev_str | exact ev_int | exact ev_neg | refine ev_tup ?_ | (refine ev_var rfl ?_; assumption))))


theorem gd_app (c e : List G2) : gd (c ++ e) = gd c ++ gd e := by unfold gd cd; rw [List.map_append, List.map_append]
def isVr (w : List Nat) (k : Kd) : G2 → Bool
  | .tip x => isV w k x
  | _ => false
def isBr (l : Nat) : G2 → Bool
  | .tip x => isB l x
  | _ => false
theorem row_eqV (r : G2) (w : List Nat) (k : Kd) : PyData.eqv (upR r).d (Lf.var w k).d = isVr w k r := by
  cases r with
  | app => show PyData.eqv (.tuple [_]) (.tuple [_, _, _]) = false; simp [PyData.eqv, PyData.eqvAll]
  | lam j => show PyData.eqv (.tuple [_, _]) (.tuple [_, _, _]) = false; simp [PyData.eqv, PyData.eqvAll]
  | tip x =>
    cases x with
    | bnd i => show PyData.eqv (.tuple [_, _]) (.tuple [_, _, _]) = false; simp [PyData.eqv, PyData.eqvAll]
    | cst v j =>
      show PyData.eqv (.tuple [.str (S wCONST), .str (S v), j.d]) (.tuple [.str (S wVAR), .str (S w), k.d]) = false
      simp only [PyData.eqv, PyData.eqvAll, K02.S_beq]
      rw [decide_eq_false (by decide)]; simp
    | var v j =>
      show PyData.eqv (.tuple [.str (S wVAR), .str (S v), j.d]) (.tuple [.str (S wVAR), .str (S w), k.d]) = decide (v = w ∧ j = k)
      simp only [PyData.eqv, PyData.eqvAll, K02.S_beq, Kd.eqv]
      by_cases h1 : v = w <;> by_cases h2 : j = k <;> simp [h1, h2]
theorem row_eqB (r : G2) (l : Nat) : PyData.eqv (upR r).d (Lf.bnd l).d = isBr l r := by
  cases r with
  | app => show PyData.eqv (.tuple [_]) (.tuple [_, _]) = false; simp [PyData.eqv, PyData.eqvAll]
  | lam j =>
    show PyData.eqv (.tuple [.str (S wLAM), j.d]) (.tuple [.str (S wBOUND), .int (l : Int)]) = false
    simp only [PyData.eqv, PyData.eqvAll, K02.S_beq]
    rw [decide_eq_false (by decide)]; simp
  | tip x =>
    cases x with
    | cst v j => show PyData.eqv (.tuple [_, _, _]) (.tuple [_, _]) = false; simp [PyData.eqv, PyData.eqvAll]
    | var v j => show PyData.eqv (.tuple [_, _, _]) (.tuple [_, _]) = false; simp [PyData.eqv, PyData.eqvAll]
    | bnd i =>
      show PyData.eqv (.tuple [.str (S wBOUND), .int (i : Int)]) (.tuple [.str (S wBOUND), .int (l : Int)]) = decide (i = l)
      simp only [PyData.eqv, PyData.eqvAll, K02.S_beq]
      by_cases h : i = l
      · subst h; simp
      · have : ¬ ((i : Int) = (l : Int)) := by omega
        simp [h, this]
theorem cokVar : Cok wVAR := by show ∀ c ∈ wVAR, c < 256; decide
theorem cokConst : Cok wCONST := by show ∀ c ∈ wCONST, c < 256; decide
theorem cokBound : Cok wBOUND := by show ∀ c ∈ wBOUND, c < 256; decide
theorem cokApp : Cok wAPP := by show ∀ c ∈ wAPP, c < 256; decide
theorem cokLam : Cok wLAM := by show ∀ c ∈ wLAM, c < 256; decide
theorem sz_leaf {l : Lf} (h : l.ok) : Sz 180 l.d := by
  have lg : ∀ w ∈ LOGIC, ∀ c ∈ w, c < 256 := by decide
  cases l with
  | var w k =>
    have := h.2.2; have h3 := k.ht_sz
    refine ⟨by simp only [Lf.d, PyData.canLay0, PyData.canLayAll0, strOk_S cokVar, strOk_S (name_cok h.1).1, k.lay h.2.1, Bool.and_self], ?_⟩
    simp only [Lf.d, PyData.depth, PyData.depthAll, Kd.depth]; omega
  | cst w k =>
    have := h.2.2; have h3 := k.ht_sz
    have hc : Cok w := h.1.elim (fun z => (name_cok z).1) (fun z => lg w z)
    refine ⟨by simp only [Lf.d, PyData.canLay0, PyData.canLayAll0, strOk_S cokConst, strOk_S hc, k.lay h.2.1, Bool.and_self], ?_⟩
    simp only [Lf.d, PyData.depth, PyData.depthAll, Kd.depth]; omega
  | bnd i =>
    refine ⟨by simp only [Lf.d, PyData.canLay0, PyData.canLayAll0, strOk_S cokBound, Bool.and_self], ?_⟩
    simp only [Lf.d, PyData.depth, PyData.depthAll]; omega
theorem sz_row {r : G2} (h : r.gok) : Sz 180 (upR r).d := by
  cases r with
  | app =>
    show Sz 180 (.tuple [.str (S wAPP)])
    refine ⟨by simp only [PyData.canLay0, PyData.canLayAll0, strOk_S cokApp, Bool.and_self], ?_⟩
    simp only [PyData.depth, PyData.depthAll]; omega
  | lam k =>
    show Sz 180 (.tuple [.str (S wLAM), k.d])
    have := h.2; have h3 := k.ht_sz
    refine ⟨by simp only [PyData.canLay0, PyData.canLayAll0, strOk_S cokLam, k.lay h.1, Bool.and_self], ?_⟩
    simp only [PyData.depth, PyData.depthAll, Kd.depth]; omega
  | tip l => exact sz_leaf h
/-- the rows done so far -/
def doneS (f : Nat → Lf → List G2) (c : List G2) (i : Nat) : List G2 := ((List.zipWith (rowS f) c (lvC c [0])).take i).flatten
theorem doneS_zero (f : Nat → Lf → List G2) (c : List G2) : doneS f c 0 = [] := rfl
theorem doneS_all (f : Nat → Lf → List G2) (c : List G2) : doneS f c c.length = subC f c [0] := by
  rw [subC_rows]
  unfold doneS
  rw [List.take_of_length_le]
  rw [List.length_zipWith, lvC_len]; omega
theorem doneS_succ {f : Nat → Lf → List G2} {c : List G2} {i : Nat} {r : G2} {l : Nat} (e : c[i]? = some r) (h : (lvC c [0])[i]? = some l) : doneS f c (i + 1) = doneS f c i ++ rowS f r l := by
  unfold doneS
  have hz : (List.zipWith (rowS f) c (lvC c [0]))[i]? = some (rowS f r l) := by rw [List.getElem?_zipWith, e, h]
  rw [List.take_add_one, hz, List.flatten_append]
  simp
theorem lv_at {c : List G2} {i : Nat} (hi : i < c.length) : ∃ l, (lvC c [0])[i]? = some l ∧ (natI (lvC c [0]))[i]? = some (.int (l : Int)) := by
  have h : i < (lvC c [0]).length := by rw [lvC_len]; exact hi
  exact ⟨_, List.getElem?_eq_getElem h, by unfold natI; rw [List.getElem?_map, List.getElem?_eq_getElem h]; rfl⟩
theorem doneS_len {f : Nat → Lf → List G2} {m : Nat} (hf : ∀ r l, (rowS f r l).length ≤ m) (c : List G2) : ∀ i, (doneS f c i).length ≤ i * m
  | 0 => by rw [doneS_zero]; exact Nat.zero_le _
  | i + 1 => by
    have ih := doneS_len hf c i
    by_cases hi : i < c.length
    · obtain ⟨l, h1, _⟩ := lv_at hi
      rw [doneS_succ (List.getElem?_eq_getElem hi) h1, List.length_append, Nat.succ_mul]
      have := hf c[i] l
      omega
    · have : doneS f c (i + 1) = doneS f c i := by
        unfold doneS
        have h : (List.zipWith (rowS f) c (lvC c [0])).length ≤ i := by rw [List.length_zipWith, lvC_len]; omega
        rw [List.take_of_length_le h, List.take_of_length_le (by omega)]
      rw [this, Nat.succ_mul]; omega
theorem row_isV {w : List Nat} {k : Kd} {r : G2} (h : isVr w k r = true) (l : Nat) : rowS (absC w k) r l = [.tip (.bnd l)] := by
  cases r with
  | app => cases h
  | lam j => cases h
  | tip x => show absC w k l x = _; unfold absC; rw [if_pos (show isV w k x = true from h)]
theorem row_notV {w : List Nat} {k : Kd} {r : G2} (h : isVr w k r = false) (l : Nat) : rowS (absC w k) r l = [r] := by
  cases r with
  | app => rfl
  | lam j => rfl
  | tip x => show absC w k l x = _; unfold absC; rw [if_neg (by rw [show isV w k x = false from h]; decide)]
theorem row_isB {v : List G2} {r : G2} {l : Nat} (h : isBr l r = true) : rowS (insC v) r l = v := by
  cases r with
  | app => cases h
  | lam j => cases h
  | tip x => show insC v l x = _; unfold insC; rw [if_pos (show isB l x = true from h)]
theorem row_notB {v : List G2} {r : G2} {l : Nat} (h : isBr l r = false) : rowS (insC v) r l = [r] := by
  cases r with
  | app => rfl
  | lam j => rfl
  | tip x => show insC v l x = _; unfold insC; rw [if_neg (by rw [show isB l x = false from h]; decide)]
def sp_law_abstracted : Sp := sp3 fun x y z H Q _ => ∃ (p : Addr) (c : List G2) (w : List Nat) (k : Kd), x = .ref p ∧ y = .str (S w) ∧ DL H p (gd c) ∧ TD H z k.d ∧ fok c ∧ (fo c).length = 1 ∧ c.length ≤ 5000 ∧ (∀ r ∈ c, r.gok) ∧ isName w = true ∧ GK k ∧
  ∀ q H', H q = none → Same H H' → DL H' q (gd (subC (absC w k) c [0])) → Q (.ref q) H'
theorem ok_law_abstracted (T : Txt w K mg) {fd : FuncData} (F : Fn_law_abstracted K fd) (hm : mg "_law_abstracted" = some (.ref (He.ga K "_law_abstracted"))) (c_law_levels : CalX P w K mg base CX0 1 "_law_levels" sp_law_levels) : CalX P w K mg base CX0 2 "_law_abstracted" sp_law_abstracted := by
  refine calx0 (k := 1) F hm sc_law_abstracted (b_law_abstracted F) (fun _ _ _ _ h => sp3_len h) (fun cdv A outer s H vs Q E hr h => ?_)
  obtain ⟨x0, x1, x2, rfl, h⟩ := h
  refine ⟨_, (pss_cons (ps_set (i := 3) sc_law_abstracted.nd rfl (Or.inl rfl) (pe_cx c_law_levels hr (by decide) rfl pass0 (pa_cons (pv 0) pa_nil)))
    (pss_cons (ps_set (i := 4) sc_law_abstracted.nd rfl (Or.inl rfl) (pe_lst pa_nil))
    (pss_cons (ps_for PassesOwn.never rfl (pi_range1 (by rfl) T.f_range (pa_cons (pe_callB call_lenQ (by rfl) T.f_len PySem.boot_len (pa_cons (pv 0) pa_nil)) pa_nil)) (pg_name (i := 5) sc_law_abstracted.nd rfl (Or.inl rfl))
    (pss_one (ps_if (pt_cmpR (op_eqN hr) (pe_ix ix_list (pv 0) (pv 5) (fun _ _ => rfl)) (pe_tup (pa_cons pe_str (pa_cons (pv 1) (pa_cons (pv 2) pa_nil)))) (nomark _))
    (pss_one (ps_expr (pe_bm PySem.F.plainAttrs_list PySem.F.slot_list_append PySem.F.type_list_append mt_append (pv 4) (pa_cons (pe_tup (pa_cons pe_str (pa_cons (pe_ix ix_list (pv 3) (pv 5) (fun _ _ => rfl)) pa_nil))) pa_nil))))
    (pss_one (ps_expr (pe_bm PySem.F.plainAttrs_list PySem.F.slot_list_append PySem.F.type_list_append mt_append (pv 4) (pa_cons (pe_ix ix_list (pv 0) (pv 5) (fun _ _ => rfl)) pa_nil)))))))
    (pss_one (ps_ret (pv 4)))))), ?_⟩
  rw [show start ["code", "word", "kind", "levels", "made", "k"] [x0, x1, x2] = [some x0, some x1, some x2, none, none, none] from rfl]
  have ec0 : Str.ofString "var" = S [118,97,114] := S_ofs (by decide +kernel)
  have ec1 : Str.ofString "bound" = S [98,111,117,110,100] := S_ofs (by decide +kernel)
  rw [ec0, ec1]
  obtain ⟨p, c, w, k, rfl, rfl, hd, hk, hok, hf1, hz, hg, hw, hgk, hQ⟩ := h
  try dsimp only [cxOf]
  walk_at "v"
  refine ⟨_, rfl, p, c, rfl, hd, hok, hf1, by omega, fun lq H1 h1 s1 dl => ?_⟩
  walk_at "v"
  refine ev_lst (ds := gd []) (by walk_at "d") (fun mq H2 h2 s2 dm => ?_)
  walk_at "v"
  have s02 := s1.tr s2
  have hm0 : H mq = none := s1.fresh h2
  refine l_len (hd.same s02) ?_
  rw [gd_len]
  walk_at "v"
  refine w_rg1 (by omega) (by omega) ?_
  have hone : ∀ r l, (rowS (absC w k) r l).length ≤ 1 := fun r l => by
    cases hv : isVr w k r
    · rw [row_notV hv]; exact Nat.le_refl _
    · rw [row_isV hv]; exact Nat.le_refl _
  have hpm : p ≠ mq := fun z => by obtain ⟨_, e⟩ := hd.lst; rw [z, hm0] at e; cases e
  have hlm : lq ≠ mq := fun z => by obtain ⟨_, e⟩ := dl.lst; rw [z, h2] at e; cases e
  refine for_range (fun i σ H' => ∃ (v5 : Option V), σ = [some (.ref p), some (.str (S w)), some x2, some (.ref lq), some (.ref mq), v5] ∧ Same H H' ∧ DL H' lq (natI (lvC c [0])) ∧ DL H' mq (gd (doneS (absC w k) c i)))
    ⟨_, rfl, s02, dl.same s2, dm⟩ ?_ ?_
  · rintro i σ G hi ⟨v5, rfl, s, dlg, dmg⟩
    have hi : i < c.length := by omega
    have ei := List.getElem?_eq_getElem hi
    have gi := hg _ (List.getElem_mem hi)
    generalize c[i] = r at ei gi
    obtain ⟨l, el, edl⟩ := lv_at hi
    have hml := doneS_len hone c i
    dsimp only [gName]
    walk_at "v"
    rw [show (0 : Int) + (i : Int) = (i : Int) by omega]
    refine l_ix (hd.same s) (gd_at ei) (fun x tx => ?_)
    walk_at "v"
    have kG := hk.tm (Tm.same s)
    refine ev_go (d := (Lf.var w k).d) (ev_tup (eva_cons ev_str (eva_cons (ev_var rfl (.str _)) (eva_cons (ev_var rfl kG) eva_nil)))) (fun y H3 s3 ty => ?_)
    walk_at "v"
    refine d_eq (tx.tm (Tm.same s3)) ty (sz_row gi) (sz_leaf (l := .var w k) ⟨hw, hgk⟩) ?_
    rw [row_eqV]
    walk_at "v"
    have sG := s.tr s3
    refine w_b (fun hv => ?_) (fun hv => ?_)
    · walk_at "v"
      refine l_ty (dmg.same s3) ?_
      walk_at "v"
      refine w_tupN ?_
      walk_at "v"
      refine l_ix (dlg.same s3) edl (fun x tx => ?_)
      rw [tx.num]
      walk_at "v"
      refine t_new (ds := [.str (S wBOUND), .int (l : Int)]) (.cons (.str _) (.cons (.int _) .nil)) (fun p4 H4 hp4 s4 t4 => ?_)
      walk_at "v"
      refine l_app ((dmg.same s3).same s4) t4 (fun H5 d5 x5 => ?_) (by rw [gd_len]; omega)
      walk_at "v"
      refine ⟨_, rfl, (sG.tr s4).ex hm0 x5, let ⟨_, e⟩ := ((dmg.same s3).same s4).lst; ((dlg.same s3).same s4).ex x5 hlm e, ?_⟩
      rw [doneS_succ ei el, row_isV hv, gd_app]; exact d5
    · walk_at "v"
      refine l_ty (dmg.same s3) ?_
      walk_at "v"
      refine l_ix (hd.same sG) (gd_at ei) (fun x tx => ?_)
      walk_at "v"
      refine l_app (dmg.same s3) tx (fun H5 d5 x5 => ?_) (by rw [gd_len]; omega)
      walk_at "v"
      refine ⟨_, rfl, sG.ex hm0 x5, let ⟨_, e⟩ := (dmg.same s3).lst; (dlg.same s3).ex x5 hlm e, ?_⟩
      rw [doneS_succ ei el, row_notV hv, gd_app]; exact d5
  · rintro σ G ⟨v5, rfl, s, dlg, dmg⟩
    walk_at "v"
    rw [show ((c.length : Int)).toNat = c.length from Int.toNat_natCast _, doneS_all] at dmg
    exact hQ mq G hm0 s dmg

def sp_law_instantiated : Sp := sp2 fun x y H Q _ => ∃ (p q : Addr) (c v : List G2), x = .ref p ∧ y = .ref q ∧ DL H p (gd c) ∧ DL H q (gd v) ∧ fok c ∧ (fo c).length = 1 ∧ c.length ≤ 450 ∧ v.length ≤ 200 ∧ (∀ r ∈ c, r.gok) ∧
  ∀ q' H', H q' = none → Same H H' → DL H' q' (gd (subC (insC v) c [0])) → Q (.ref q') H'
theorem ok_law_instantiated (T : Txt w K mg) {fd : FuncData} (F : Fn_law_instantiated K fd) (hm : mg "_law_instantiated" = some (.ref (He.ga K "_law_instantiated"))) (c_law_levels : CalX P w K mg base CX0 1 "_law_levels" sp_law_levels) : CalX P w K mg base CX0 2 "_law_instantiated" sp_law_instantiated := by
  refine calx0 (k := 1) F hm sc_law_instantiated (b_law_instantiated F) (fun _ _ _ _ h => sp2_len h) (fun cdv A outer s H vs Q E hr h => ?_)
  obtain ⟨x0, x1, rfl, h⟩ := h
  refine ⟨_, (pss_cons (ps_set (i := 2) sc_law_instantiated.nd rfl (Or.inl rfl) (pe_cx c_law_levels hr (by decide) rfl pass0 (pa_cons (pv 0) pa_nil)))
    (pss_cons (ps_set (i := 3) sc_law_instantiated.nd rfl (Or.inl rfl) (pe_lst pa_nil))
    (pss_cons (ps_for PassesOwn.never rfl (pi_range1 (by rfl) T.f_range (pa_cons (pe_callB call_lenQ (by rfl) T.f_len PySem.boot_len (pa_cons (pv 0) pa_nil)) pa_nil)) (pg_name (i := 4) sc_law_instantiated.nd rfl (Or.inl rfl))
    (pss_one (ps_if (pt_cmpR (op_eqN hr) (pe_ix ix_list (pv 0) (pv 4) (fun _ _ => rfl)) (pe_tup (pa_cons pe_str (pa_cons (pe_ix ix_list (pv 2) (pv 4) (fun _ _ => rfl)) pa_nil))) (nomark _))
    (pss_one (ps_expr (pe_bm PySem.F.plainAttrs_list PySem.F.slot_list_extend PySem.F.type_list_extend mt_extend (pv 3) (pa_cons (pv 1) pa_nil))))
    (pss_one (ps_expr (pe_bm PySem.F.plainAttrs_list PySem.F.slot_list_append PySem.F.type_list_append mt_append (pv 3) (pa_cons (pe_ix ix_list (pv 0) (pv 4) (fun _ _ => rfl)) pa_nil)))))))
    (pss_one (ps_ret (pv 3)))))), ?_⟩
  rw [show start ["code", "filler", "levels", "made", "k"] [x0, x1] = [some x0, some x1, none, none, none] from rfl]
  have ec0 : Str.ofString "bound" = S [98,111,117,110,100] := S_ofs (by decide +kernel)
  rw [ec0]
  obtain ⟨p, q, c, v, rfl, rfl, hd, hv, hok, hf1, hz, hvz, hg, hQ⟩ := h
  try dsimp only [cxOf]
  walk_at "v"
  refine ⟨_, rfl, p, c, rfl, hd, hok, hf1, by omega, fun lq H1 h1 s1 dl => ?_⟩
  walk_at "v"
  refine ev_lst (ds := gd []) (by walk_at "d") (fun mq H2 h2 s2 dm => ?_)
  walk_at "v"
  have s02 := s1.tr s2
  have hm0 : H mq = none := s1.fresh h2
  refine l_len (hd.same s02) ?_
  rw [gd_len]
  walk_at "v"
  refine w_rg1 (by omega) (by omega) ?_
  have hone : ∀ r l, (rowS (insC v) r l).length ≤ 201 := fun r l => by
    cases hb : isBr l r
    · rw [row_notB hb]; show 1 ≤ 201; omega
    · rw [row_isB hb]; omega
  have hlm : lq ≠ mq := fun z => by obtain ⟨_, e⟩ := dl.lst; rw [z, h2] at e; cases e
  refine for_range (fun i σ H' => ∃ (v5 : Option V), σ = [some (.ref p), some (.ref q), some (.ref lq), some (.ref mq), v5] ∧ Same H H' ∧ DL H' lq (natI (lvC c [0])) ∧ DL H' mq (gd (doneS (insC v) c i)))
    ⟨_, rfl, s02, dl.same s2, dm⟩ ?_ ?_
  · rintro i σ G hi ⟨v5, rfl, s, dlg, dmg⟩
    have hi : i < c.length := by omega
    have ei := List.getElem?_eq_getElem hi
    have gi := hg _ (List.getElem_mem hi)
    generalize c[i] = r at ei gi
    obtain ⟨l, el, edl⟩ := lv_at hi
    have hml := doneS_len hone c i
    dsimp only [gName]
    walk_at "v"
    rw [show (0 : Int) + (i : Int) = (i : Int) by omega]
    refine l_ix (hd.same s) (gd_at ei) (fun x tx => ?_)
    walk_at "v"
    refine w_tupN ?_
    walk_at "v"
    refine l_ix dlg edl (fun y ty => ?_)
    rw [ty.num]
    walk_at "v"
    refine t_new (ds := [.str (S wBOUND), .int (l : Int)]) (.cons (.str _) (.cons (.int _) .nil)) (fun p4 H3 hp4 s3 t4 => ?_)
    walk_at "v"
    refine d_eq (tx.tm (Tm.same s3)) t4 (sz_row gi) (sz_leaf (l := .bnd l) trivial) ?_
    rw [show (PyData.tuple [.str (S wBOUND), .int (l : Int)]) = (Lf.bnd l).d from rfl, row_eqB]
    walk_at "v"
    have sG := s.tr s3
    refine w_b (fun hb => ?_) (fun hb => ?_)
    · walk_at "v"
      refine l_ty (dmg.same s3) ?_
      walk_at "v"
      refine l_extL (dmg.same s3) (hv.same sG) (fun H5 d5 x5 => ?_) (by rw [gd_len, gd_len]; omega)
      walk_at "v"
      refine ⟨_, rfl, sG.ex hm0 x5, let ⟨_, e⟩ := (dmg.same s3).lst; (dlg.same s3).ex x5 hlm e, ?_⟩
      rw [doneS_succ ei el, row_isB hb, gd_app]; exact d5
    · walk_at "v"
      refine l_ty (dmg.same s3) ?_
      walk_at "v"
      refine l_ix (hd.same sG) (gd_at ei) (fun x tx => ?_)
      walk_at "v"
      refine l_app (dmg.same s3) tx (fun H5 d5 x5 => ?_) (by rw [gd_len]; omega)
      walk_at "v"
      refine ⟨_, rfl, sG.ex hm0 x5, let ⟨_, e⟩ := (dmg.same s3).lst; (dlg.same s3).ex x5 hlm e, ?_⟩
      rw [doneS_succ ei el, row_notB hb, gd_app]; exact d5
  · rintro σ G ⟨v5, rfl, s, dlg, dmg⟩
    walk_at "v"
    rw [show ((c.length : Int)).toNat = c.length from Int.toNat_natCast _, doneS_all] at dmg
    exact hQ mq G hm0 s dmg
end
end K01

namespace K01
open PySem PySem.Spec PyProof.Rows L2 SX K02
local macro_rules | `(tactic| walk_at "w1") => `(tactic| (first
  | with_reducible refine w_seq ?_ | with_reducible refine w_asgN ?_ | with_reducible refine w_c ?_
  | ((with_reducible refine' w_var ?wv ?_); (case wv => exact rfl))
  | with_reducible refine w_op ?_ | with_reducible refine w_un ?_ | with_reducible refine w_next ?_ | with_reducible refine w_brk ?_ | with_reducible refine w_cnt ?_
  | with_reducible refine w_ifS ?_ | with_reducible refine w_if ?_ | with_reducible refine w_test ?_ | with_reducible refine w_tB ?_ | with_reducible refine w_bl ?_ | with_reducible refine w_blI ?_
  | with_reducible refine w_and ?_ | with_reducible refine w_or ?_ | with_reducible refine w_not ?_ | with_reducible refine w_andV ?_ | with_reducible refine w_orV ?_ | with_reducible refine w_notV ?_
  | with_reducible refine w_nil ?_ | with_reducible refine w_cons ?_ | with_reducible refine w_cb ?_ | with_reducible refine w_call ?_ | with_reducible refine w_callS ?_ | with_reducible refine w_chain ?_
  | with_reducible refine w_tupN ?_ | with_reducible refine w_lstN ?_ | with_reducible refine w_sl ?_ | with_reducible refine w_noPart ?_ | with_reducible refine w_part ?_ | with_reducible refine w_partI ?_
  | with_reducible refine w_ret ?_ | with_reducible refine w_retN ?_ | with_reducible refine w_drop ?_ | with_reducible refine w_asg ?_ | with_reducible refine w_gSub ?_
  | ((with_reducible refine' w_aug ?wv ?_); (case wv => exact rfl)) | with_reducible refine w_ipI ?_
  | with_reducible refine w_addI ?_ | with_reducible refine w_subI ?_ | with_reducible refine w_ltI ?_ | with_reducible refine w_leI ?_ | with_reducible refine w_gtI ?_ | with_reducible refine w_geI ?_
  | with_reducible refine w_eqI ?_ | with_reducible refine w_neI ?_ | with_reducible refine w_eqT ?_ | with_reducible refine w_neT ?_ | with_reducible refine w_inS ?_ | with_reducible refine w_ninS ?_
  | with_reducible refine w_absI ?_ | with_reducible refine w_intI ?_ | with_reducible refine w_maxI ?_ | with_reducible refine w_minI ?_
  | with_reducible refine w_for ?_ | with_reducible refine w_iR1 ?_ | with_reducible refine w_iR2 ?_ | with_reducible refine w_iStr ?_ | with_reducible refine w_strI ?_ | with_reducible refine w_iList ?_ | with_reducible refine w_iTup ?_
  | with_reducible refine w_bm ?_ | with_reducible refine w_bm0 ?_ | with_reducible refine w_t ?_ | with_reducible refine w_f ?_ | with_reducible refine w_nt ?_ | with_reducible refine w_nx ?_ | with_reducible refine w_rt ?_ | with_reducible refine w_bk ?_ | with_reducible refine w_ct ?_ | with_reducible refine w_nf ?_ | with_reducible refine w_lc ?_ | with_reducible refine w_yes ?_ | with_reducible refine w_neg ?_ | with_reducible refine w_intB ?_ | with_reducible refine w_fld ?_ | with_reducible refine w_setf ?_ | with_reducible refine w_faug ?_ | with_reducible refine w_meth ?_ | with_reducible refine w_bmS ?_ | with_reducible refine w_start ?_ | with_reducible refine w_revL ?_ | with_reducible refine w_iR3 ?_))
local macro_rules | `(tactic| walk_at "w") => `(tactic| (repeat (first | walk_at "w1" | dsimp (config := { proj := false }) only [List.set_cons_zero, List.set_cons_succ])))
section
variable {w : World} {K : PySem.W.Frag} {mg : Str → Option Value} {base : Heap}
local macro_rules | `(tactic| walk_at "v1") => `(tactic| (first
  | with_reducible refine w_seq ?_ | with_reducible refine w_asgN ?_ | with_reducible refine w_c ?_
  | ((with_reducible refine' w_var ?wv ?_); (case wv => exact rfl))
  | with_reducible refine w_op ?_ | with_reducible refine w_un ?_ | with_reducible refine w_next ?_ | with_reducible refine w_brk ?_ | with_reducible refine w_cnt ?_
  | with_reducible refine w_ifS ?_ | with_reducible refine w_if ?_ | with_reducible refine w_test ?_ | with_reducible refine w_tB ?_ | with_reducible refine w_bl ?_ | with_reducible refine w_blI ?_
  | with_reducible refine w_and ?_ | with_reducible refine w_or ?_ | with_reducible refine w_not ?_ | with_reducible refine w_andV ?_ | with_reducible refine w_orV ?_ | with_reducible refine w_notV ?_
  | with_reducible refine w_nil ?_ | with_reducible refine w_cons ?_ | with_reducible refine w_cb ?_ | with_reducible refine w_call ?_ | with_reducible refine w_callS ?_ | with_reducible refine w_chain ?_
  | with_reducible refine w_sl ?_ | with_reducible refine w_noPart ?_ | with_reducible refine w_part ?_ | with_reducible refine w_partI ?_
  | with_reducible refine w_ret ?_ | with_reducible refine w_retN ?_ | with_reducible refine w_drop ?_ | with_reducible refine w_asg ?_ | with_reducible refine w_gSub ?_
  | ((with_reducible refine' w_aug ?wv ?_); (case wv => exact rfl)) | with_reducible refine w_ipI ?_
  | with_reducible refine w_addI ?_ | with_reducible refine w_subI ?_ | with_reducible refine w_ltI ?_ | with_reducible refine w_leI ?_ | with_reducible refine w_gtI ?_ | with_reducible refine w_geI ?_
  | with_reducible refine w_eqI ?_ | with_reducible refine w_neI ?_ | with_reducible refine w_eqT ?_ | with_reducible refine w_neT ?_ | with_reducible refine w_inS ?_ | with_reducible refine w_ninS ?_
  | with_reducible refine w_absI ?_ | with_reducible refine w_intI ?_ | with_reducible refine w_maxI ?_ | with_reducible refine w_minI ?_
  | with_reducible refine w_for ?_ | with_reducible refine w_iR1 ?_ | with_reducible refine w_iR2 ?_ | with_reducible refine w_iStr ?_ | with_reducible refine w_strI ?_ | with_reducible refine w_iList ?_ | with_reducible refine w_iTup ?_
  | with_reducible refine w_bm ?_ | with_reducible refine w_bm0 ?_ | with_reducible refine w_t ?_ | with_reducible refine w_f ?_ | with_reducible refine w_nt ?_ | with_reducible refine w_nx ?_ | with_reducible refine w_rt ?_ | with_reducible refine w_bk ?_ | with_reducible refine w_ct ?_ | with_reducible refine w_nf ?_ | with_reducible refine w_lc ?_ | with_reducible refine w_yes ?_ | with_reducible refine w_neg ?_ | with_reducible refine w_intB ?_ | with_reducible refine w_fld ?_ | with_reducible refine w_setf ?_ | with_reducible refine w_faug ?_ | with_reducible refine w_meth ?_ | with_reducible refine w_bmS ?_ | with_reducible refine w_start ?_ | with_reducible refine w_revL ?_ | with_reducible refine w_iR3 ?_))
local macro_rules | `(tactic| walk_at "v") => `(tactic| (repeat (first | walk_at "v1" | dsimp (config := { proj := false }) only [List.set_cons_zero, List.set_cons_succ])))
local macro_rules | `(tactic| walk_at "d") => `(tactic| (repeat (first | exact eva_nil | refine eva_cons ?_ ?_ | exact ev_str | exact ev_int | exact ev_neg | refine ev_tup ?_ | (refine ev_var rfl ?_; assumption))))


theorem ht_half : ∀ k : Kd, 2 * k.ht ≤ k.sz + 1
  | .nm _ => Nat.le_refl _
  | .fr _ => Nat.le_refl _
  | .to a b => by
    have := ht_half a; have := ht_half b; have := a.sz_pos; have := b.sz_pos
    show 2 * (max a.ht b.ht + 1) ≤ a.sz + b.sz + 1 + 1
    omega
theorem gk_ht {k : Kd} (h : GK k) : k.ht ≤ 50 := by have := ht_half k; have := h.2; omega
theorem leaf_depth {l : Lf} (h : l.ok) : l.d.depth ≤ 51 := by
  cases l with
  | var w k => have := gk_ht h.2; simp only [Lf.d, PyData.depth, PyData.depthAll, Kd.depth]; omega
  | cst w k => have := gk_ht h.2; simp only [Lf.d, PyData.depth, PyData.depthAll, Kd.depth]; omega
  | bnd i => simp only [Lf.d, PyData.depth, PyData.depthAll]; omega
theorem tree_lay : ∀ {g : Gt}, g.gok → (upT g).d.canLay0 = true ∧ (upT g).d.depth ≤ g.dep + 50
  | .app f a, h => by
    obtain ⟨f1, f2⟩ := tree_lay h.1
    obtain ⟨a1, a2⟩ := tree_lay h.2
    show (PyData.tuple [.str (S wAPP), (upT f).d, (upT a).d]).canLay0 = true ∧ (PyData.tuple [.str (S wAPP), (upT f).d, (upT a).d]).depth ≤ max f.dep a.dep + 1 + 50
    refine ⟨by simp only [PyData.canLay0, PyData.canLayAll0, strOk_S cokApp, f1, a1, Bool.and_self], ?_⟩
    simp only [PyData.depth, PyData.depthAll]; omega
  | .lam k b, h => by
    obtain ⟨b1, b2⟩ := tree_lay h.2
    have := gk_ht h.1
    show (PyData.tuple [.str (S wLAM), k.d, (upT b).d]).canLay0 = true ∧ (PyData.tuple [.str (S wLAM), k.d, (upT b).d]).depth ≤ b.dep + 1 + 50
    refine ⟨by simp only [PyData.canLay0, PyData.canLayAll0, strOk_S cokLam, b1, k.lay h.1.1, Bool.and_self], ?_⟩
    simp only [PyData.depth, PyData.depthAll, Kd.depth]; omega
  | .tip l, h => ⟨(sz_leaf h).1, by have := leaf_depth h; show l.d.depth ≤ 1 + 50; omega⟩
theorem sz_tree {g : Gt} (h : g.gok) (z : g.dep ≤ 130) : Sz 180 (upT g).d := ⟨(tree_lay h).1, by have := (tree_lay h).2; omega⟩
def isVt (w : List Nat) (k : Kd) : Gt → Bool
  | .tip x => isV w k x
  | _ => false
theorem tree_eqV (g : Gt) (w : List Nat) (k : Kd) : PyData.eqv (upT g).d (Lf.var w k).d = isVt w k g := by
  cases g with
  | tip x => exact row_eqV (.tip x) w k
  | app f a =>
    show PyData.eqv (.tuple [.str (S wAPP), (upT f).d, (upT a).d]) (.tuple [.str (S wVAR), .str (S w), k.d]) = false
    simp only [PyData.eqv, PyData.eqvAll, K02.S_beq]
    rw [decide_eq_false (by decide)]; simp
  | lam j b =>
    show PyData.eqv (.tuple [.str (S wLAM), j.d, (upT b).d]) (.tuple [.str (S wVAR), .str (S w), k.d]) = false
    simp only [PyData.eqv, PyData.eqvAll, K02.S_beq]
    rw [decide_eq_false (by decide)]; simp
def sp_abs (n : Nat) : Sp := sp3 fun x y z H Q _ => ∃ (g : Gt) (w : List Nat) (k : Kd) (l : Nat), TD H x (upT g).d ∧ TD H y (Lf.var w k).d ∧ z = .int (l : Int) ∧ g.gok ∧ g.dep ≤ n ∧ n ≤ 130 ∧ isName w = true ∧ GK k ∧
  ∀ v H', Same H H' → TD H' v (upT (subT (absL w k) g l)).d → Q v H'
theorem abs_step (T : Txt w K mg) {fd : FuncData} (F : Fn_abstracted K fd) (hm : mg "_abstracted" = some (.ref (He.ga K "_abstracted"))) (n : Nat) (c_abstracted : CalX P w K mg base CX0 (n + 1) "_abstracted" (sp_abs n)) : CalX P w K mg base CX0 (n + 2) "_abstracted" (sp_abs (n + 1)) := by
  refine calx0 (k := n + 1) F hm sc_abstracted (b_abstracted F) (fun _ _ _ _ h => sp3_len h) (fun cdv A outer s H vs Q E hr h => ?_)
  obtain ⟨x0, x1, x2, rfl, h⟩ := h
  refine ⟨_, (pss_cons (ps_if (pt_cmpR (op_eqN hr) (pv 0) (pv 1) (nomark _))
    (pss_one (ps_ret (pe_tup (pa_cons pe_str (pa_cons (pv 2) pa_nil)))))
    pss_nil)
    (pss_cons (ps_if (pt_cmpR op_eq (pe_ix ix_tup (pv 0) pe_int (fun _ _ => rfl)) pe_str (nomark _))
    (pss_one (ps_ret (pe_tup (pa_cons pe_str (pa_cons (pe_cx c_abstracted hr (Nat.le_refl _) rfl pass0 (pa_cons (pe_ix ix_tup (pv 0) pe_int (fun _ _ => rfl)) (pa_cons (pv 1) (pa_cons (pv 2) pa_nil)))) (pa_cons (pe_cx c_abstracted hr (Nat.le_refl _) rfl pass0 (pa_cons (pe_ix ix_tup (pv 0) pe_int (fun _ _ => rfl)) (pa_cons (pv 1) (pa_cons (pv 2) pa_nil)))) pa_nil))))))
    pss_nil)
    (pss_cons (ps_if (pt_cmpR op_eq (pe_ix ix_tup (pv 0) pe_int (fun _ _ => rfl)) pe_str (nomark _))
    (pss_one (ps_ret (pe_tup (pa_cons pe_str (pa_cons (pe_ix ix_tup (pv 0) pe_int (fun _ _ => rfl)) (pa_cons (pe_cx c_abstracted hr (Nat.le_refl _) rfl pass0 (pa_cons (pe_ix ix_tup (pv 0) pe_int (fun _ _ => rfl)) (pa_cons (pv 1) (pa_cons (pe_op op_addI (pv 2) pe_int) pa_nil)))) pa_nil))))))
    pss_nil)
    (pss_one (ps_ret (pv 0)))))), ?_⟩
  rw [show start ["part", "variable", "level"] [x0, x1, x2] = [some x0, some x1, some x2] from rfl]
  have ec0 : Str.ofString "app" = S [97,112,112] := S_ofs (by decide +kernel)
  have ec1 : Str.ofString "lam" = S [108,97,109] := S_ofs (by decide +kernel)
  have ec2 : Str.ofString "bound" = S [98,111,117,110,100] := S_ofs (by decide +kernel)
  rw [ec0, ec1, ec2]
  obtain ⟨g, w, k, l, hx, hy, rfl, hg, hn, hn2, hw, hk, hQ⟩ := h
  try dsimp only [cxOf]
  walk_at "v"
  refine d_eq hx hy (sz_tree hg (by omega)) (sz_leaf (l := .var w k) ⟨hw, hk⟩) ?_
  rw [tree_eqV]
  cases g with
  | app f a =>
    have hx : TD H x0 (.tuple [.str (S wAPP), (upT f).d, (upT a).d]) := hx
    have hdp : max f.dep a.dep + 1 ≤ n + 1 := hn
    rw [show isVt w k _ = false from rfl]
    walk_at "v"
    refine t_ixS (n := 0) hx rfl ?_
    walk_at "v"
    rw [show decide (wAPP = [97, 112, 112]) = true from by decide]
    walk_at "v"
    refine w_tupN ?_
    walk_at "v"
    refine t_ix (n := 1) hx rfl (fun y1 ty1 => ?_)
    walk_at "v"
    refine ⟨_, _, _, rfl, f, w, k, l, ty1, hy, rfl, hg.1, by omega, by omega, hw, hk, fun v1 H1 s1 t1 => ?_⟩
    walk_at "v"
    refine t_ix (n := 2) (hx.tm (Tm.same s1)) rfl (fun y2 ty2 => ?_)
    walk_at "v"
    refine ⟨_, _, _, rfl, a, w, k, l, ty2, hy.tm (Tm.same s1), rfl, hg.2, by omega, by omega, hw, hk, fun v2 H2 s2 t2 => ?_⟩
    walk_at "v"
    refine t_new (ds := [.str (S wAPP), (upT (subT (absL w k) f l)).d, (upT (subT (absL w k) a l)).d]) (.cons (.str _) (.cons (t1.tm (Tm.same s2)) (.cons t2 .nil))) (fun p3 H3 hp3 s3 t3 => ?_)
    exact hQ _ H3 ((s1.tr s2).tr s3) t3
  | lam j b =>
    have hx : TD H x0 (.tuple [.str (S wLAM), j.d, (upT b).d]) := hx
    have hdp : b.dep + 1 ≤ n + 1 := hn
    rw [show isVt w k _ = false from rfl]
    walk_at "v"
    refine t_ixS (n := 0) hx rfl ?_
    walk_at "v"
    rw [show decide (wLAM = [97, 112, 112]) = false from by decide]
    walk_at "v"
    refine t_ixS (n := 0) hx rfl ?_
    walk_at "v"
    rw [show decide (wLAM = [108, 97, 109]) = true from by decide]
    walk_at "v"
    refine w_tupN ?_
    walk_at "v"
    refine t_ix (n := 1) hx rfl (fun y1 ty1 => ?_)
    walk_at "v"
    refine t_ix (n := 2) hx rfl (fun y2 ty2 => ?_)
    walk_at "v"
    rw [show ((l : Int) + 1) = ((l + 1 : Nat) : Int) by omega]
    refine ⟨_, _, _, rfl, b, w, k, l + 1, ty2, hy, rfl, hg.2, by omega, by omega, hw, hk, fun v1 H1 s1 t1 => ?_⟩
    walk_at "v"
    refine t_new (ds := [.str (S wLAM), j.d, (upT (subT (absL w k) b (l + 1))).d]) (.cons (.str _) (.cons (ty1.tm (Tm.same s1)) (.cons t1 .nil))) (fun p3 H3 hp3 s3 t3 => ?_)
    exact hQ _ H3 (s1.tr s3) t3
  | tip x =>
    rw [show isVt w k (.tip x) = isV w k x from rfl]
    walk_at "v"
    refine w_b (fun hv => ?_) (fun hv => ?_)
    · walk_at "v"
      refine ev_go (d := (Lf.bnd l).d) (ev_tup (eva_cons ev_str (eva_cons (ev_var rfl (.int _)) eva_nil))) (fun v H1 s1 t1 => hQ v H1 s1 ?_)
      show TD H1 v (upT (absL w k l x)).d
      unfold absL
      rw [if_pos hv]; exact t1
    · walk_at "v"
      obtain ⟨rest, ed⟩ := gw_d (.tip x)
      have m12 := gw_tip x
      have hx' : TD H x0 (.tuple (.str (S (gw (.tip x))) :: rest)) := by rw [← ed]; exact hx
      refine t_ixS (n := 0) hx' rfl ?_
      walk_at "v"
      rw [show decide (gw (.tip x) = [97, 112, 112]) = false from decide_eq_false m12.1]
      walk_at "v"
      refine t_ixS (n := 0) hx' rfl ?_
      walk_at "v"
      rw [show decide (gw (.tip x) = [108, 97, 109]) = false from decide_eq_false m12.2]
      walk_at "v"
      refine hQ x0 H (Same.refl' H) ?_
      show TD H x0 (upT (absL w k l x)).d
      unfold absL
      rw [if_neg (by rw [hv]; decide)]; exact hx

theorem abs_all (T : Txt w K mg) {fd : FuncData} (F : Fn_abstracted K fd) (hm : mg "_abstracted" = some (.ref (He.ga K "_abstracted"))) : ∀ n, CalX P w K mg base CX0 (n + 1) "_abstracted" (sp_abs n)
  | 0 => calx0 (k := 0) F hm sc_abstracted (b_abstracted F) (fun _ _ _ _ h => sp3_len h) (fun cdv A outer s H vs Q E hr h => by
      obtain ⟨x0, x1, x2, rfl, g, _, _, _, _, _, _, _, hn, _⟩ := h
      have := g.dep_pos
      omega)
  | n + 1 => abs_step T F hm n (abs_all T F hm n)
def sp_abstract : Sp := sp3 fun x y z H Q _ => ∃ (g : Gt) (w : List Nat) (k : Kd), TD H x (upT g).d ∧ y = .str (S w) ∧ TD H z k.d ∧ g.gok ∧ g.dep ≤ 130 ∧ isName w = true ∧ GK k ∧
  ∀ v H', Same H H' → TD H' v (upT (subT (absL w k) g 0)).d → Q v H'
theorem ok_abstract (T : Txt w K mg) {fd : FuncData} (F : Fn_abstract K fd) (hm : mg "abstract" = some (.ref (He.ga K "abstract"))) (c_abstracted : CalX P w K mg base CX0 131 "_abstracted" (sp_abs 130)) : CalX P w K mg base CX0 132 "abstract" sp_abstract := by
  refine calx0 (k := 131) F hm sc_abstract (b_abstract F) (fun _ _ _ _ h => sp3_len h) (fun cdv A outer s H vs Q E hr h => ?_)
  obtain ⟨x0, x1, x2, rfl, h⟩ := h
  refine ⟨_, (pss_one (ps_ret (pe_cx c_abstracted hr (by decide) rfl pass0 (pa_cons (pv 0) (pa_cons (pe_tup (pa_cons pe_str (pa_cons (pv 1) (pa_cons (pv 2) pa_nil)))) (pa_cons pe_int pa_nil)))))), ?_⟩
  rw [show start ["term", "name", "kind"] [x0, x1, x2] = [some x0, some x1, some x2] from rfl]
  have ec0 : Str.ofString "var" = S [118,97,114] := S_ofs (by decide +kernel)
  rw [ec0]
  obtain ⟨g, w, k, hx, rfl, hz, hg, hn, hw, hk, hQ⟩ := h
  try dsimp only [cxOf]
  walk_at "v"
  refine ev_go (d := (Lf.var w k).d) (ev_tup (eva_cons ev_str (eva_cons (ev_var rfl (.str _)) (eva_cons (ev_var rfl hz) eva_nil)))) (fun v H1 s1 t1 => ?_)
  walk_at "v"
  exact ⟨_, _, _, rfl, g, w, k, 0, hx.tm (Tm.same s1), t1, rfl, hg, hn, Nat.le_refl _, hw, hk, fun v2 H2 s2 t2 => hQ v2 H2 (s1.tr s2) t2⟩

def sp_lam : Sp := sp3 fun x y z H Q _ => ∃ (g : Gt) (w : List Nat) (k : Kd), x = .str (S w) ∧ TD H y k.d ∧ TD H z (upT g).d ∧ g.gok ∧ g.dep ≤ 130 ∧ isName w = true ∧ GK k ∧
  ∀ v H', Same H H' → TD H' v (.tuple [.str (S wLAM), k.d, (upT (subT (absL w k) g 0)).d]) → Q v H'
theorem ok_lam (T : Txt w K mg) {fd : FuncData} (F : Fn_lam K fd) (hm : mg "lam" = some (.ref (He.ga K "lam"))) (c_abstract : CalX P w K mg base CX0 132 "abstract" sp_abstract) : CalX P w K mg base CX0 133 "lam" sp_lam := by
  refine calx0 (k := 132) F hm sc_lam (b_lam F) (fun _ _ _ _ h => sp3_len h) (fun cdv A outer s H vs Q E hr h => ?_)
  obtain ⟨x0, x1, x2, rfl, h⟩ := h
  refine ⟨_, (pss_one (ps_ret (pe_tup (pa_cons pe_str (pa_cons (pv 1) (pa_cons (pe_cx c_abstract hr (by decide) rfl pass0 (pa_cons (pv 2) (pa_cons (pv 0) (pa_cons (pv 1) pa_nil)))) pa_nil)))))), ?_⟩
  rw [show start ["name", "kind", "body"] [x0, x1, x2] = [some x0, some x1, some x2] from rfl]
  have ec0 : Str.ofString "lam" = S [108,97,109] := S_ofs (by decide +kernel)
  rw [ec0]
  obtain ⟨g, w, k, rfl, hy, hz, hg, hn, hw, hk, hQ⟩ := h
  try dsimp only [cxOf]
  walk_at "v"
  refine w_tupN ?_
  walk_at "v"
  refine ⟨_, _, _, rfl, g, w, k, hz, rfl, hy, hg, hn, hw, hk, fun v1 H1 s1 t1 => ?_⟩
  walk_at "v"
  refine t_new (ds := [.str (S wLAM), k.d, (upT (subT (absL w k) g 0)).d]) (.cons (.str _) (.cons (hy.tm (Tm.same s1)) (.cons t1 .nil))) (fun p3 H3 hp3 s3 t3 => ?_)
  exact hQ _ H3 (s1.tr s3) t3
end
end K01

namespace K01
open PySem PySem.Spec PyProof.Rows L2 SX K02
local macro_rules | `(tactic| walk_at "w1") => `(tactic| (first
  | with_reducible refine w_seq ?_ | with_reducible refine w_asgN ?_ | with_reducible refine w_c ?_
  | ((with_reducible refine' w_var ?wv ?_); (case wv => exact rfl))
  | with_reducible refine w_op ?_ | with_reducible refine w_un ?_ | with_reducible refine w_next ?_ | with_reducible refine w_brk ?_ | with_reducible refine w_cnt ?_
  | with_reducible refine w_ifS ?_ | with_reducible refine w_if ?_ | with_reducible refine w_test ?_ | with_reducible refine w_tB ?_ | with_reducible refine w_bl ?_ | with_reducible refine w_blI ?_
  | with_reducible refine w_and ?_ | with_reducible refine w_or ?_ | with_reducible refine w_not ?_ | with_reducible refine w_andV ?_ | with_reducible refine w_orV ?_ | with_reducible refine w_notV ?_
  | with_reducible refine w_nil ?_ | with_reducible refine w_cons ?_ | with_reducible refine w_cb ?_ | with_reducible refine w_call ?_ | with_reducible refine w_callS ?_ | with_reducible refine w_chain ?_
  | with_reducible refine w_tupN ?_ | with_reducible refine w_lstN ?_ | with_reducible refine w_sl ?_ | with_reducible refine w_noPart ?_ | with_reducible refine w_part ?_ | with_reducible refine w_partI ?_
  | with_reducible refine w_ret ?_ | with_reducible refine w_retN ?_ | with_reducible refine w_drop ?_ | with_reducible refine w_asg ?_ | with_reducible refine w_gSub ?_
  | ((with_reducible refine' w_aug ?wv ?_); (case wv => exact rfl)) | with_reducible refine w_ipI ?_
  | with_reducible refine w_addI ?_ | with_reducible refine w_subI ?_ | with_reducible refine w_ltI ?_ | with_reducible refine w_leI ?_ | with_reducible refine w_gtI ?_ | with_reducible refine w_geI ?_
  | with_reducible refine w_eqI ?_ | with_reducible refine w_neI ?_ | with_reducible refine w_eqT ?_ | with_reducible refine w_neT ?_ | with_reducible refine w_inS ?_ | with_reducible refine w_ninS ?_
  | with_reducible refine w_absI ?_ | with_reducible refine w_intI ?_ | with_reducible refine w_maxI ?_ | with_reducible refine w_minI ?_
  | with_reducible refine w_for ?_ | with_reducible refine w_iR1 ?_ | with_reducible refine w_iR2 ?_ | with_reducible refine w_iStr ?_ | with_reducible refine w_strI ?_ | with_reducible refine w_iList ?_ | with_reducible refine w_iTup ?_
  | with_reducible refine w_bm ?_ | with_reducible refine w_bm0 ?_ | with_reducible refine w_t ?_ | with_reducible refine w_f ?_ | with_reducible refine w_nt ?_ | with_reducible refine w_nx ?_ | with_reducible refine w_rt ?_ | with_reducible refine w_bk ?_ | with_reducible refine w_ct ?_ | with_reducible refine w_nf ?_ | with_reducible refine w_lc ?_ | with_reducible refine w_yes ?_ | with_reducible refine w_neg ?_ | with_reducible refine w_intB ?_ | with_reducible refine w_fld ?_ | with_reducible refine w_setf ?_ | with_reducible refine w_faug ?_ | with_reducible refine w_meth ?_ | with_reducible refine w_bmS ?_ | with_reducible refine w_start ?_ | with_reducible refine w_revL ?_ | with_reducible refine w_iR3 ?_))
local macro_rules | `(tactic| walk_at "w") => `(tactic| (repeat (first | walk_at "w1" | dsimp (config := { proj := false }) only [List.set_cons_zero, List.set_cons_succ])))
section
variable {w : World} {K : PySem.W.Frag} {mg : Str → Option Value} {base : Heap}
def wm (es : List (Gt × Nat)) : List PyData := es.map fun e => .tuple [(upT e.1).d, .int (e.2 : Int)]
def ns (es : List (Gt × Nat)) : Nat := (es.map fun e => e.1.nodes).sum
def dg (es : List (Gt × Nat)) : Nat := dm (fun e : Gt × Nat => e.1.dep) (fun e => e.2) es
theorem ns_app (a b : List (Gt × Nat)) : ns (a ++ b) = ns a + ns b := by unfold ns; rw [List.map_append, List.sum_append]
def sp_measure : Sp := sp1 fun x H Q _ => ∃ g : Gt, TD H x (upT g).d ∧ g.nodes ≤ 50000 ∧ ∀ v H', Same H H' → TD H' v (.tuple [.int (g.nodes : Int), .int (g.dep : Int)]) → Q v H'
theorem ok_measure (T : Txt w K mg) {fd : FuncData} (F : Fn_measure K fd) (hm : mg "measure" = some (.ref (He.ga K "measure")))  : CalX P w K mg base CX0 1 "measure" sp_measure := by
  refine calx0 (k := 0) F hm sc_measure (b_measure F) (fun _ _ _ _ h => sp1_len h) (fun cdv A outer s H vs Q E hr h => ?_)
  obtain ⟨x0, rfl, h⟩ := h
  refine ⟨_, (pss_cons (ps_set (i := 1) sc_measure.nd rfl (Or.inl rfl) pe_int)
    (pss_cons (ps_set (i := 2) sc_measure.nd rfl (Or.inl rfl) pe_int)
    (pss_cons (ps_set (i := 3) sc_measure.nd rfl (Or.inl rfl) (pe_lst (pa_cons (pe_tup (pa_cons (pv 0) (pa_cons pe_int pa_nil))) pa_nil)))
    (pss_cons (ps_while PassesOwn.never (pt_truth (pv 3) (by intro _; rfl))
    (pss_cons (ps_asg (pe_bm0 PySem.F.plainAttrs_list PySem.F.slot_list_pop PySem.F.type_list_pop mt_pop (pv 3)) (pg_tup (by rfl) (pgs_cons (pg_name (i := 4) sc_measure.nd rfl (Or.inl rfl)) (pgs_cons (pg_name (i := 5) sc_measure.nd rfl (Or.inl rfl)) pgs_nil))))
    (pss_cons (ps_aug (i := 1) sc_measure.nd rfl (Or.inl rfl) pe_int ip_add)
    (pss_cons (ps_set (i := 2) sc_measure.nd rfl (Or.inl rfl) (pe_callB (call_maxI rfl) (by rfl) T.f_max (by decide +kernel) (pa_cons (pv 2) (pa_cons (pv 5) pa_nil))))
    (pss_one (ps_if (pt_cmpR op_eq (pe_ix ix_tup (pv 4) pe_int (fun _ _ => rfl)) pe_str (nomark _))
    (pss_cons (ps_expr (pe_bm PySem.F.plainAttrs_list PySem.F.slot_list_append PySem.F.type_list_append mt_append (pv 3) (pa_cons (pe_tup (pa_cons (pe_ix ix_tup (pv 4) pe_int (fun _ _ => rfl)) (pa_cons (pe_op op_addI (pv 5) pe_int) pa_nil))) pa_nil)))
    (pss_one (ps_expr (pe_bm PySem.F.plainAttrs_list PySem.F.slot_list_append PySem.F.type_list_append mt_append (pv 3) (pa_cons (pe_tup (pa_cons (pe_ix ix_tup (pv 4) pe_int (fun _ _ => rfl)) (pa_cons (pe_op op_addI (pv 5) pe_int) pa_nil))) pa_nil)))))
    (pss_one (ps_if (pt_cmpR op_eq (pe_ix ix_tup (pv 4) pe_int (fun _ _ => rfl)) pe_str (nomark _))
    (pss_one (ps_expr (pe_bm PySem.F.plainAttrs_list PySem.F.slot_list_append PySem.F.type_list_append mt_append (pv 3) (pa_cons (pe_tup (pa_cons (pe_ix ix_tup (pv 4) pe_int (fun _ _ => rfl)) (pa_cons (pe_op op_addI (pv 5) pe_int) pa_nil))) pa_nil))))
    pss_nil))))))))
    (pss_one (ps_ret (pe_tup (pa_cons (pv 1) (pa_cons (pv 2) pa_nil))))))))), ?_⟩
  rw [show start ["term", "many", "deepest", "waiting", "part", "depth"] [x0] = [some x0, none, none, none, none, none] from rfl]
  have ec0 : Str.ofString "app" = S [97,112,112] := S_ofs (by decide +kernel)
  have ec1 : Str.ofString "lam" = S [108,97,109] := S_ofs (by decide +kernel)
  rw [ec0, ec1]
  obtain ⟨g, hd, hz, hQ⟩ := h
  try dsimp only [cxOf]
  walk_at "w"
  refine t_new (ds := [(upT g).d, .int 1]) (.cons hd (.cons (.int _) .nil)) (fun p1 H1 hp1 s1 t1 => ?_)
  walk_at "w"
  refine l_new (ds := wm [(g, 1)]) (.cons t1 .nil) (fun p H2 hp s2 d2 => ?_)
  walk_at "w"
  have hp0 : H p = none := by
    cases e : H p with
    | none => rfl
    | some o => rw [s1 p o e] at hp; cases hp
  refine w_whl (fun m σ H' => ∃ (es : List (Gt × Nat)) (many deep : Nat) (v1 v2 : Option V), m = ns es ∧ σ = [some x0, some (.int (many : Int)), some (.int (deep : Int)), some (.ref p), v1, v2] ∧ Same H H' ∧ DL H' p (wm es) ∧ es.length ≤ many + 1 ∧ many + ns es = g.nodes ∧ max (deep + 1) (dg es) = g.dep + 1 ∧ ∀ e ∈ es, 1 ≤ e.2)
    g.nodes ⟨[(g, 1)], 0, 0, none, none, by simp [ns], rfl, s1.tr s2, d2, Nat.le_refl _, by simp [ns], by show max 1 (max (1 + g.dep) 0) = _; omega, by intro e he; rw [List.mem_singleton.mp he]; exact Nat.le_refl _⟩ ?_
  rintro m σ H3 ⟨es, many, deep, v1, v2, rfl, rfl, s3, d3, hl, hn, hdp, hpos⟩
  walk_at "w"
  refine l_truth d3 ?_
  rw [show decide (wm es ≠ []) = decide (es ≠ []) from map_ne]
  by_cases he : es = []
  · subst he
    rw [decide_eq_false (by simp)]
    walk_at "w"
    have h1 : many = g.nodes := by simpa [ns] using hn
    have h2 : deep = g.dep := by have : max (deep + 1) 0 = g.dep + 1 := hdp; omega
    refine t_new (ds := [.int (many : Int), .int (deep : Int)]) (.cons (.int _) (.cons (.int _) .nil)) (fun p4 H4 hp4 s4 t4 => ?_)
    rw [h1, h2] at t4
    exact hQ _ H4 (s3.tr s4) t4
  obtain ⟨es, ⟨e, dp⟩, rfl⟩ := snoc_of he
  rw [decide_eq_true he]
  have hdp1 : 1 ≤ dp := hpos (e, dp) (by simp)
  have hpos' : ∀ e ∈ es, 1 ≤ e.2 := fun e' he' => hpos e' (List.mem_append_left _ he')
  rw [ns_app] at hn
  have hn : many + (ns es + e.nodes) = g.nodes := by simpa [ns] using hn
  unfold dg at hdp
  rw [dm_app] at hdp
  have hdp : max (deep + 1) (max (dg es) (max (dp + e.dep) 0)) = g.dep + 1 := hdp
  have hl : es.length ≤ many := by simpa using hl
  walk_at "w"
  refine w_turn ?_
  walk_at "w"
  refine l_ty d3 ?_
  have d3 : DL H3 p (wm es ++ [.tuple [(upT e).d, .int (dp : Int)]]) := by unfold wm at d3; rw [List.map_append] at d3; exact d3
  walk_at "w"
  refine l_pop d3 (fun x H4 tx d4 x4 => ?_)
  have s4 := s3.ex hp0 x4
  obtain ⟨q, qs, rfl, hq, tqs⟩ := tx.tuple
  obtain ⟨y, z, rfl, ty, tz⟩ := tqs.two
  rw [tz.num] at hq
  refine w_un2 rfl hq ?_
  walk_at "w"
  have e1 : (many : Int) + 1 = ((many + 1 : Nat) : Int) := by omega
  have e2 : (if (dp : Int) > (deep : Int) then (dp : Int) else (deep : Int)) = ((max deep dp : Nat) : Int) := by split <;> omega
  rw [e1, e2]
  have sub : ∀ {es' : List (Gt × Nat)} {H' : Hp} {v1 v2 : Option V}, Same H H' → DL H' p (wm (es ++ es')) → es'.length ≤ 2 → ns es' + 1 = e.nodes → max (dp + 1) (dg es') = dp + e.dep → (∀ e ∈ es', 1 ≤ e.2) →
      ∃ m', m' < ns (es ++ [(e, dp)]) ∧ ∃ (es : List (Gt × Nat)) (many' dq : Nat) (u1 u2 : Option V), m' = ns es ∧ [some x0, some (.int ((many + 1 : Nat) : Int)), some (.int ((max deep dp : Nat) : Int)), some (.ref p), v1, v2] = [some x0, some (.int (many' : Int)), some (.int (dq : Int)), some (.ref p), u1, u2] ∧ Same H H' ∧ DL H' p (wm es) ∧ es.length ≤ many' + 1 ∧ many' + ns es = g.nodes ∧ max (dq + 1) (dg es) = g.dep + 1 ∧ ∀ e ∈ es, 1 ≤ e.2 := fun {es' H' v1 v2} q1 q2 q3 q4 q5 q6 => by
    refine ⟨_, ?_, es ++ es', many + 1, max deep dp, v1, v2, rfl, rfl, q1, q2, by rw [List.length_append]; omega, by rw [ns_app]; omega, ?_, ?_⟩
    · rw [ns_app, ns_app]
      have : ns [(e, dp)] = e.nodes := by simp [ns]
      omega
    · unfold dg; rw [dm_app]
      show max (max deep dp + 1) (max (dg es) (dg es')) = g.dep + 1
      omega
    · intro e' he'
      rcases List.mem_append.mp he' with he' | he'
      · exact hpos' e' he'
      · exact q6 e' he'
  cases e with
  | app f a =>
    rw [show (upT (.app f a)).d = .tuple [.str (S wAPP), (upT f).d, (upT a).d] from rfl] at ty
    refine t_ixS (n := 0) ty rfl ?_
    walk_at "w"
    rw [decide_eq_true rfl]
    walk_at "w"
    refine l_ty d4 ?_
    walk_at "w"
    refine t_ix (n := 2) ty rfl (fun ya ta => ?_)
    walk_at "w"
    refine t_new (ds := [(upT a).d, .int ((dp + 1 : Nat) : Int)]) (.cons ta (.cons (.int _) .nil)) (fun p5 H5 hp5 s5 t5 => ?_)
    walk_at "w"
    refine l_app (d4.same s5) t5 (fun H6 d6 x6 => ?_) (by unfold wm; rw [List.length_map]; omega)
    walk_at "w"
    have tm6 : Tm H4 H6 := (Tm.same s5).tr ((d4.same s5).tm_ex x6)
    refine l_ty d6 ?_
    walk_at "w"
    refine t_ix (n := 1) (ty.tm tm6) rfl (fun yf tf => ?_)
    walk_at "w"
    refine t_new (ds := [(upT f).d, .int ((dp + 1 : Nat) : Int)]) (.cons tf (.cons (.int _) .nil)) (fun p7 H7 hp7 s7 t7 => ?_)
    walk_at "w"
    refine l_app (d6.same s7) t7 (fun H8 d8 x8 => ?_) (by unfold wm; rw [List.length_append, List.length_map]; show es.length + 1 ≤ 100000; omega)
    walk_at "w"
    refine sub (es' := [(a, dp + 1), (f, dp + 1)]) ((((s4.tr s5).ex hp0 x6).tr s7).ex hp0 x8) ?_ (Nat.le_refl _) ?_ ?_ ?_
    · unfold wm; rw [List.map_append]; rw [List.append_assoc] at d8; exact d8
    · show (a.nodes + (f.nodes + 0)) + 1 = f.nodes + a.nodes + 1; omega
    · have := f.dep_pos; have := a.dep_pos
      show max (dp + 1) (max (dp + 1 + a.dep) (max (dp + 1 + f.dep) 0)) = dp + (max f.dep a.dep + 1); omega
    · intro e' he'; simp at he'; rcases he' with rfl | rfl <;> exact Nat.succ_pos _
  | lam k b =>
    rw [show (upT (.lam k b)).d = .tuple [.str (S wLAM), k.d, (upT b).d] from rfl] at ty
    refine t_ixS (n := 0) ty rfl ?_
    walk_at "w"
    rw [decide_eq_false (by decide)]
    walk_at "w"
    refine t_ixS (n := 0) ty rfl ?_
    walk_at "w"
    rw [decide_eq_true rfl]
    walk_at "w"
    refine l_ty d4 ?_
    walk_at "w"
    refine t_ix (n := 2) ty rfl (fun ya ta => ?_)
    walk_at "w"
    refine t_new (ds := [(upT b).d, .int ((dp + 1 : Nat) : Int)]) (.cons ta (.cons (.int _) .nil)) (fun p5 H5 hp5 s5 t5 => ?_)
    walk_at "w"
    refine l_app (d4.same s5) t5 (fun H6 d6 x6 => ?_) (by unfold wm; rw [List.length_map]; omega)
    walk_at "w"
    refine sub (es' := [(b, dp + 1)]) ((s4.tr s5).ex hp0 x6) ?_ (by show 1 ≤ 2; omega) ?_ ?_ ?_
    · unfold wm; rw [List.map_append]; exact d6
    · show (b.nodes + 0) + 1 = b.nodes + 1; omega
    · have := b.dep_pos
      show max (dp + 1) (max (dp + 1 + b.dep) 0) = dp + (b.dep + 1); omega
    · intro e' he'; rw [List.mem_singleton.mp he']; exact Nat.succ_pos _
  | tip l =>
    obtain ⟨s0, r, e0, n1, n2, _⟩ := lf_tip l
    rw [show (upT (.tip l)).d = l.d from rfl, e0] at ty
    refine t_ixS (n := 0) ty rfl ?_
    walk_at "w"
    rw [decide_eq_false n1]
    walk_at "w"
    refine t_ixS (n := 0) ty rfl ?_
    walk_at "w"
    rw [decide_eq_false n2]
    walk_at "w"
    refine sub (es' := []) s4 (by rw [List.append_nil]; exact d4) (Nat.zero_le _) rfl ?_ (fun e' he' => by cases he')
    show max (dp + 1) 0 = dp + 1; omega

def pts : Gt → Nat → List (Gt × Nat)
  | .app f a, l => (.app f a, l) :: (pts f l ++ pts a l)
  | .lam j b, l => (.lam j b, l) :: pts b (l + 1)
  | .tip x, l => [(.tip x, l)]
def ptsS (es : List (Gt × Nat)) : List (Gt × Nat) := (es.reverse.map fun e => pts e.1 e.2).flatten
theorem ptsS_snoc (es : List (Gt × Nat)) (e : Gt × Nat) : ptsS (es ++ [e]) = pts e.1 e.2 ++ ptsS es := by unfold ptsS; rw [List.reverse_append]; rfl
theorem pts_len : ∀ (g : Gt) (l : Nat), (pts g l).length = g.nodes
  | .app f a, l => by show (pts f l ++ pts a l).length + 1 = f.nodes + a.nodes + 1; rw [List.length_append, pts_len f, pts_len a]
  | .lam j b, l => by show (pts b (l + 1)).length + 1 = b.nodes + 1; rw [pts_len b]
  | .tip x, l => rfl
theorem ptsS_len : ∀ es : List (Gt × Nat), (ptsS es).length = ns es := by
  intro es
  unfold ptsS ns
  rw [List.length_flatten, List.map_map, ← List.sum_reverse, ← List.map_reverse, List.reverse_reverse]
  congr 1
  apply List.map_congr_left
  intro e _
  exact pts_len _ _
def sp_parts : Sp := sp1 fun x H Q _ => ∃ g : Gt, TD H x (upT g).d ∧ g.nodes ≤ 50000 ∧ ∀ q H', H q = none → Same H H' → DL H' q (wm (pts g 0)) → Q (.ref q) H'
theorem ok_parts (T : Txt w K mg) {fd : FuncData} (F : Fn_parts K fd) (hm : mg "_parts" = some (.ref (He.ga K "_parts")))  : CalX P w K mg base CX0 1 "_parts" sp_parts := by
  refine calx0 (k := 0) F hm sc_parts (b_parts F) (fun _ _ _ _ h => sp1_len h) (fun cdv A outer s H vs Q E hr h => ?_)
  obtain ⟨x0, rfl, h⟩ := h
  refine ⟨_, (pss_cons (ps_set (i := 1) sc_parts.nd rfl (Or.inl rfl) (pe_lst pa_nil))
    (pss_cons (ps_set (i := 2) sc_parts.nd rfl (Or.inl rfl) (pe_lst (pa_cons (pe_tup (pa_cons (pv 0) (pa_cons pe_int pa_nil))) pa_nil)))
    (pss_cons (ps_while PassesOwn.never (pt_truth (pv 2) (by intro _; rfl))
    (pss_cons (ps_asg (pe_bm0 PySem.F.plainAttrs_list PySem.F.slot_list_pop PySem.F.type_list_pop mt_pop (pv 2)) (pg_tup (by rfl) (pgs_cons (pg_name (i := 3) sc_parts.nd rfl (Or.inl rfl)) (pgs_cons (pg_name (i := 4) sc_parts.nd rfl (Or.inl rfl)) pgs_nil))))
    (pss_cons (ps_expr (pe_bm PySem.F.plainAttrs_list PySem.F.slot_list_append PySem.F.type_list_append mt_append (pv 1) (pa_cons (pe_tup (pa_cons (pv 3) (pa_cons (pv 4) pa_nil))) pa_nil)))
    (pss_one (ps_if (pt_cmpR op_eq (pe_ix ix_tup (pv 3) pe_int (fun _ _ => rfl)) pe_str (nomark _))
    (pss_cons (ps_expr (pe_bm PySem.F.plainAttrs_list PySem.F.slot_list_append PySem.F.type_list_append mt_append (pv 2) (pa_cons (pe_tup (pa_cons (pe_ix ix_tup (pv 3) pe_int (fun _ _ => rfl)) (pa_cons (pv 4) pa_nil))) pa_nil)))
    (pss_one (ps_expr (pe_bm PySem.F.plainAttrs_list PySem.F.slot_list_append PySem.F.type_list_append mt_append (pv 2) (pa_cons (pe_tup (pa_cons (pe_ix ix_tup (pv 3) pe_int (fun _ _ => rfl)) (pa_cons (pv 4) pa_nil))) pa_nil)))))
    (pss_one (ps_if (pt_cmpR op_eq (pe_ix ix_tup (pv 3) pe_int (fun _ _ => rfl)) pe_str (nomark _))
    (pss_one (ps_expr (pe_bm PySem.F.plainAttrs_list PySem.F.slot_list_append PySem.F.type_list_append mt_append (pv 2) (pa_cons (pe_tup (pa_cons (pe_ix ix_tup (pv 3) pe_int (fun _ _ => rfl)) (pa_cons (pe_op op_addI (pv 4) pe_int) pa_nil))) pa_nil))))
    pss_nil)))))))
    (pss_one (ps_ret (pv 1)))))), ?_⟩
  rw [show start ["term", "found", "waiting", "part", "level"] [x0] = [some x0, none, none, none, none] from rfl]
  have ec0 : Str.ofString "app" = S [97,112,112] := S_ofs (by decide +kernel)
  have ec1 : Str.ofString "lam" = S [108,97,109] := S_ofs (by decide +kernel)
  rw [ec0, ec1]
  obtain ⟨g, hd, hz, hQ⟩ := h
  try dsimp only [cxOf]
  walk_at "w"
  refine l_new (ds := wm []) .nil (fun fo_ Hf hfo sf df => ?_)
  walk_at "w"
  have hd := hd.tm (Tm.same sf)
  refine t_new (ds := [(upT g).d, .int ((0 : Nat) : Int)]) (.cons hd (.cons (.int _) .nil)) (fun p1 H1 hp1 s1 t1 => ?_)
  walk_at "w"
  refine l_new (ds := wm [(g, 0)]) (.cons t1 .nil) (fun p H2 hp s2 d2 => ?_)
  walk_at "w"
  have s02 := (sf.tr s1).tr s2
  have hp0 : H p = none := (sf.tr s1).fresh hp
  have hfp : fo_ ≠ p := fun z => by obtain ⟨_, e⟩ := (df.same s1).lst; rw [z, hp] at e; cases e
  refine w_whl (fun m σ H' => ∃ (es don : List (Gt × Nat)) (v1 v2 : Option V), m = ns es ∧ σ = [some x0, some (.ref fo_), some (.ref p), v1, v2] ∧ Same H H' ∧ DL H' p (wm es) ∧ DL H' fo_ (wm don) ∧ don ++ ptsS es = pts g 0 ∧ es.length ≤ don.length + 1)
    g.nodes ⟨[(g, 0)], [], none, none, by simp [ns], rfl, s02, d2, (df.same s1).same s2, by show [] ++ ptsS [(g, 0)] = _; simp [ptsS], Nat.le_refl _⟩ ?_
  rintro m σ H3 ⟨es, don, v1, v2, rfl, rfl, s3, d3, f3, hpt, hl⟩
  walk_at "w"
  refine l_truth d3 ?_
  rw [show decide (wm es ≠ []) = decide (es ≠ []) from map_ne]
  have hsz : don.length + ns es = g.nodes := by rw [← pts_len g 0, ← hpt, List.length_append, ptsS_len]
  by_cases he : es = []
  · subst he
    rw [decide_eq_false (by simp)]
    walk_at "w"
    rw [show ptsS [] = [] from rfl, List.append_nil] at hpt
    rw [hpt] at f3
    exact hQ _ H3 hfo s3 f3
  obtain ⟨es, ⟨e, l⟩, rfl⟩ := snoc_of he
  rw [decide_eq_true he]
  rw [ptsS_snoc] at hpt
  have hpt : don ++ (pts e l ++ ptsS es) = pts g 0 := hpt
  have hl : es.length ≤ don.length := by simpa using hl
  have hsz : don.length + (ns es + e.nodes) = g.nodes := by rw [← hsz, ns_app]; simp [ns]
  walk_at "w"
  refine w_turn ?_
  walk_at "w"
  refine l_ty d3 ?_
  have d3 : DL H3 p (wm es ++ [.tuple [(upT e).d, .int (l : Int)]]) := by unfold wm at d3; rw [List.map_append] at d3; exact d3
  walk_at "w"
  refine l_pop d3 (fun x H4 tx d4 x4 => ?_)
  have s4 := s3.ex hp0 x4
  have f4 := let ⟨_, e⟩ := d3.lst; f3.ex x4 hfp e
  obtain ⟨q, qs, rfl, hq, tqs⟩ := tx.tuple
  obtain ⟨y, z, rfl, ty, tz⟩ := tqs.two
  rw [tz.num] at hq
  refine w_un2 rfl hq ?_
  walk_at "w"
  refine l_ty f4 ?_
  walk_at "w"
  refine t_new (ds := [(upT e).d, .int (l : Int)]) (.cons ty (.cons (.int _) .nil)) (fun p5 H5 hp5 s5 t5 => ?_)
  walk_at "w"
  refine l_app (f4.same s5) t5 (fun H6 f6 x6 => ?_) (by unfold wm; rw [List.length_map]; omega)
  walk_at "w"
  have f6 : DL H6 fo_ (wm (don ++ [(e, l)])) := by unfold wm; rw [List.map_append]; exact f6
  have s6 := (s4.tr s5).ex hfo x6
  have d6 := let ⟨_, e⟩ := (f4.same s5).lst; (d4.same s5).ex x6 hfp.symm e
  have ty6 := (ty.tm (Tm.same s5)).tm ((f4.same s5).tm_ex x6)
  have sub : ∀ {es' : List (Gt × Nat)} {H' : Hp} {v1 v2 : Option V}, Same H H' → DL H' p (wm (es ++ es')) → DL H' fo_ (wm (don ++ [(e, l)])) → es'.length ≤ 2 → ns es' + 1 = e.nodes → pts e l = (e, l) :: ptsS es' →
      ∃ m', m' < ns (es ++ [(e, l)]) ∧ ∃ (es don' : List (Gt × Nat)) (u1 u2 : Option V), m' = ns es ∧ [some x0, some (.ref fo_), some (.ref p), v1, v2] = [some x0, some (.ref fo_), some (.ref p), u1, u2] ∧ Same H H' ∧ DL H' p (wm es) ∧ DL H' fo_ (wm don') ∧ don' ++ ptsS es = pts g 0 ∧ es.length ≤ don'.length + 1 := fun {es' H' v1 v2} q1 q2 q3 q4 q5 q6 => by
    refine ⟨_, ?_, es ++ es', don ++ [(e, l)], v1, v2, rfl, rfl, q1, q2, q3, ?_, by rw [List.length_append, List.length_append]; show es.length + es'.length ≤ don.length + 1 + 1; omega⟩
    · rw [ns_app, ns_app]
      have : ns [(e, l)] = e.nodes := by simp [ns]
      omega
    · rw [← hpt, q6]
      unfold ptsS
      rw [List.reverse_append, List.map_append, List.flatten_append]
      simp
  cases e with
  | app f a =>
    rw [show (upT (.app f a)).d = .tuple [.str (S wAPP), (upT f).d, (upT a).d] from rfl] at ty6
    refine t_ixS (n := 0) ty6 rfl ?_
    walk_at "w"
    rw [show decide (wAPP = [97, 112, 112]) = true from by decide]
    walk_at "w"
    refine l_ty d6 ?_
    walk_at "w"
    refine t_ix (n := 2) ty6 rfl (fun ya ta => ?_)
    walk_at "w"
    refine t_new (ds := [(upT a).d, .int (l : Int)]) (.cons ta (.cons (.int _) .nil)) (fun p7 H7 hp7 s7 t7 => ?_)
    walk_at "w"
    refine l_app (d6.same s7) t7 (fun H8 d8 x8 => ?_) (by unfold wm; rw [List.length_map]; omega)
    walk_at "w"
    have tm8 : Tm H6 H8 := (Tm.same s7).tr ((d6.same s7).tm_ex x8)
    have f8 := let ⟨_, e⟩ := (d6.same s7).lst; (f6.same s7).ex x8 hfp e
    refine l_ty d8 ?_
    walk_at "w"
    refine t_ix (n := 1) (ty6.tm tm8) rfl (fun yf tf => ?_)
    walk_at "w"
    refine t_new (ds := [(upT f).d, .int (l : Int)]) (.cons tf (.cons (.int _) .nil)) (fun p9 H9 hp9 s9 t9 => ?_)
    walk_at "w"
    refine l_app (d8.same s9) t9 (fun H10 d10 x10 => ?_) (by unfold wm; rw [List.length_append, List.length_map]; show es.length + 1 ≤ 100000; omega)
    walk_at "w"
    have f10 := let ⟨_, e⟩ := (d8.same s9).lst; (f8.same s9).ex x10 hfp e
    refine sub (es' := [(a, l), (f, l)]) ((((s6.tr s7).ex hp0 x8).tr s9).ex hp0 x10) ?_ f10 (Nat.le_refl _) ?_ ?_
    · unfold wm; rw [List.map_append]; rw [List.append_assoc] at d10; exact d10
    · show (a.nodes + (f.nodes + 0)) + 1 = f.nodes + a.nodes + 1; omega
    · show _ :: (pts f l ++ pts a l) = _ :: (pts f l ++ (pts a l ++ []))
      rw [List.append_nil]
  | lam j b =>
    rw [show (upT (.lam j b)).d = .tuple [.str (S wLAM), j.d, (upT b).d] from rfl] at ty6
    refine t_ixS (n := 0) ty6 rfl ?_
    walk_at "w"
    rw [show decide (wLAM = [97, 112, 112]) = false from by decide]
    walk_at "w"
    refine t_ixS (n := 0) ty6 rfl ?_
    walk_at "w"
    rw [show decide (wLAM = [108, 97, 109]) = true from by decide]
    walk_at "w"
    refine l_ty d6 ?_
    walk_at "w"
    refine t_ix (n := 2) ty6 rfl (fun ya ta => ?_)
    walk_at "w"
    refine t_new (ds := [(upT b).d, .int ((l + 1 : Nat) : Int)]) (.cons ta (.cons (.int _) .nil)) (fun p7 H7 hp7 s7 t7 => ?_)
    walk_at "w"
    refine l_app (d6.same s7) t7 (fun H8 d8 x8 => ?_) (by unfold wm; rw [List.length_map]; omega)
    walk_at "w"
    have f8 := let ⟨_, e⟩ := (d6.same s7).lst; (f6.same s7).ex x8 hfp e
    refine sub (es' := [(b, l + 1)]) ((s6.tr s7).ex hp0 x8) ?_ f8 (by show 1 ≤ 2; omega) ?_ ?_
    · unfold wm; rw [List.map_append]; exact d8
    · show (b.nodes + 0) + 1 = b.nodes + 1; omega
    · show _ :: pts b (l + 1) = _ :: (pts b (l + 1) ++ [])
      rw [List.append_nil]
  | tip x =>
    obtain ⟨rest, ed⟩ := gw_d (.tip x)
    have m12 := gw_tip x
    have tx' : TD H6 y (.tuple (.str (S (gw (.tip x))) :: rest)) := by rw [← ed]; exact ty6
    refine t_ixS (n := 0) tx' rfl ?_
    walk_at "w"
    rw [show decide (gw (.tip x) = [97, 112, 112]) = false from decide_eq_false m12.1]
    walk_at "w"
    refine t_ixS (n := 0) tx' rfl ?_
    walk_at "w"
    rw [show decide (gw (.tip x) = [108, 97, 109]) = false from decide_eq_false m12.2]
    walk_at "w"
    exact sub (es' := []) s6 (by rw [List.append_nil]; exact d6) f6 (Nat.zero_le _) rfl rfl
end
end K01

namespace K01
open PySem PySem.Spec PyProof.Rows L2 SX K02
local macro_rules | `(tactic| walk_at "w1") => `(tactic| (first
  | with_reducible refine w_seq ?_ | with_reducible refine w_asgN ?_ | with_reducible refine w_c ?_
  | ((with_reducible refine' w_var ?wv ?_); (case wv => exact rfl))
  | with_reducible refine w_op ?_ | with_reducible refine w_un ?_ | with_reducible refine w_next ?_ | with_reducible refine w_brk ?_ | with_reducible refine w_cnt ?_
  | with_reducible refine w_ifS ?_ | with_reducible refine w_if ?_ | with_reducible refine w_test ?_ | with_reducible refine w_tB ?_ | with_reducible refine w_bl ?_ | with_reducible refine w_blI ?_
  | with_reducible refine w_and ?_ | with_reducible refine w_or ?_ | with_reducible refine w_not ?_ | with_reducible refine w_andV ?_ | with_reducible refine w_orV ?_ | with_reducible refine w_notV ?_
  | with_reducible refine w_nil ?_ | with_reducible refine w_cons ?_ | with_reducible refine w_cb ?_ | with_reducible refine w_call ?_ | with_reducible refine w_callS ?_ | with_reducible refine w_chain ?_
  | with_reducible refine w_tupN ?_ | with_reducible refine w_lstN ?_ | with_reducible refine w_sl ?_ | with_reducible refine w_noPart ?_ | with_reducible refine w_part ?_ | with_reducible refine w_partI ?_
  | with_reducible refine w_ret ?_ | with_reducible refine w_retN ?_ | with_reducible refine w_drop ?_ | with_reducible refine w_asg ?_ | with_reducible refine w_gSub ?_
  | ((with_reducible refine' w_aug ?wv ?_); (case wv => exact rfl)) | with_reducible refine w_ipI ?_
  | with_reducible refine w_addI ?_ | with_reducible refine w_subI ?_ | with_reducible refine w_ltI ?_ | with_reducible refine w_leI ?_ | with_reducible refine w_gtI ?_ | with_reducible refine w_geI ?_
  | with_reducible refine w_eqI ?_ | with_reducible refine w_neI ?_ | with_reducible refine w_eqT ?_ | with_reducible refine w_neT ?_ | with_reducible refine w_inS ?_ | with_reducible refine w_ninS ?_
  | with_reducible refine w_absI ?_ | with_reducible refine w_intI ?_ | with_reducible refine w_maxI ?_ | with_reducible refine w_minI ?_
  | with_reducible refine w_for ?_ | with_reducible refine w_iR1 ?_ | with_reducible refine w_iR2 ?_ | with_reducible refine w_iStr ?_ | with_reducible refine w_strI ?_ | with_reducible refine w_iList ?_ | with_reducible refine w_iTup ?_
  | with_reducible refine w_bm ?_ | with_reducible refine w_bm0 ?_ | with_reducible refine w_t ?_ | with_reducible refine w_f ?_ | with_reducible refine w_nt ?_ | with_reducible refine w_nx ?_ | with_reducible refine w_rt ?_ | with_reducible refine w_bk ?_ | with_reducible refine w_ct ?_ | with_reducible refine w_nf ?_ | with_reducible refine w_lc ?_ | with_reducible refine w_yes ?_ | with_reducible refine w_neg ?_ | with_reducible refine w_intB ?_ | with_reducible refine w_fld ?_ | with_reducible refine w_setf ?_ | with_reducible refine w_faug ?_ | with_reducible refine w_meth ?_ | with_reducible refine w_bmS ?_ | with_reducible refine w_start ?_ | with_reducible refine w_revL ?_ | with_reducible refine w_iR3 ?_))
local macro_rules | `(tactic| walk_at "w") => `(tactic| (repeat (first | walk_at "w1" | dsimp (config := { proj := false }) only [List.set_cons_zero, List.set_cons_succ])))
section
variable {w : World} {K : PySem.W.Frag} {mg : Str → Option Value} {base : Heap}
local macro_rules | `(tactic| walk_at "v1") => `(tactic| (first
  | with_reducible refine w_seq ?_ | with_reducible refine w_asgN ?_ | with_reducible refine w_c ?_
  | ((with_reducible refine' w_var ?wv ?_); (case wv => exact rfl))
  | with_reducible refine w_op ?_ | with_reducible refine w_un ?_ | with_reducible refine w_next ?_ | with_reducible refine w_brk ?_ | with_reducible refine w_cnt ?_
  | with_reducible refine w_ifS ?_ | with_reducible refine w_if ?_ | with_reducible refine w_test ?_ | with_reducible refine w_tB ?_ | with_reducible refine w_bl ?_ | with_reducible refine w_blI ?_
  | with_reducible refine w_and ?_ | with_reducible refine w_or ?_ | with_reducible refine w_not ?_ | with_reducible refine w_andV ?_ | with_reducible refine w_orV ?_ | with_reducible refine w_notV ?_
  | with_reducible refine w_nil ?_ | with_reducible refine w_cons ?_ | with_reducible refine w_cb ?_ | with_reducible refine w_call ?_ | with_reducible refine w_callS ?_ | with_reducible refine w_chain ?_
  | with_reducible refine w_sl ?_ | with_reducible refine w_noPart ?_ | with_reducible refine w_part ?_ | with_reducible refine w_partI ?_
  | with_reducible refine w_ret ?_ | with_reducible refine w_retN ?_ | with_reducible refine w_drop ?_ | with_reducible refine w_asg ?_ | with_reducible refine w_gSub ?_
  | ((with_reducible refine' w_aug ?wv ?_); (case wv => exact rfl)) | with_reducible refine w_ipI ?_
  | with_reducible refine w_addI ?_ | with_reducible refine w_subI ?_ | with_reducible refine w_ltI ?_ | with_reducible refine w_leI ?_ | with_reducible refine w_gtI ?_ | with_reducible refine w_geI ?_
  | with_reducible refine w_eqI ?_ | with_reducible refine w_neI ?_ | with_reducible refine w_eqT ?_ | with_reducible refine w_neT ?_ | with_reducible refine w_inS ?_ | with_reducible refine w_ninS ?_
  | with_reducible refine w_absI ?_ | with_reducible refine w_intI ?_ | with_reducible refine w_maxI ?_ | with_reducible refine w_minI ?_
  | with_reducible refine w_for ?_ | with_reducible refine w_iR1 ?_ | with_reducible refine w_iR2 ?_ | with_reducible refine w_iStr ?_ | with_reducible refine w_strI ?_ | with_reducible refine w_iList ?_ | with_reducible refine w_iTup ?_
  | with_reducible refine w_bm ?_ | with_reducible refine w_bm0 ?_ | with_reducible refine w_t ?_ | with_reducible refine w_f ?_ | with_reducible refine w_nt ?_ | with_reducible refine w_nx ?_ | with_reducible refine w_rt ?_ | with_reducible refine w_bk ?_ | with_reducible refine w_ct ?_ | with_reducible refine w_nf ?_ | with_reducible refine w_lc ?_ | with_reducible refine w_yes ?_ | with_reducible refine w_neg ?_ | with_reducible refine w_intB ?_ | with_reducible refine w_fld ?_ | with_reducible refine w_setf ?_ | with_reducible refine w_faug ?_ | with_reducible refine w_meth ?_ | with_reducible refine w_bmS ?_ | with_reducible refine w_start ?_ | with_reducible refine w_revL ?_ | with_reducible refine w_iR3 ?_))
local macro_rules | `(tactic| walk_at "v") => `(tactic| (repeat (first | walk_at "v1" | dsimp (config := { proj := false }) only [List.set_cons_zero, List.set_cons_succ])))
local macro_rules | `(tactic| walk_at "d") => `(tactic| (repeat (first | exact eva_nil | refine eva_cons ?_ ?_ | exact ev_str | exact ev_int | exact ev_neg | refine ev_tup ?_ | (refine ev_var rfl ?_; assumption))))

def okI (u : Value) : Prop := ∃ i t, u = .int i t ∧ i.natAbs.log2 < 1920
def okVI (v : V) : Prop := ∃ i, v = .int i ∧ i.natAbs.log2 < 1920
theorem okH : ∀ v u, RelV v u → okVI v → okI u := fun v u r h => by
  obtain ⟨i, rfl, h⟩ := h
  obtain ⟨t, rfl⟩ := r
  exact ⟨i, t, rfl, h⟩
theorem int_len {i : Int} (h : i.natAbs.log2 < 1920) : (Str.ofString (toString i)).length ≤ 2000 := by
  have e := int_text_length_le (k := 1920) (by decide) h
  rw [PySem.ofString_length]; omega
theorem msg_f2 {prog : Program} {w : World} {env : Env} {L : Addr} {m : Str → Option Value} {z y : Str} {j} {p1 p2 p3 pos : Pos} {i : Int} {ti : Tok} (hL : env.locals = L) (hv : m y = some (.int i ti)) (hi : i.natAbs.log2 < 1920) (hz : z.length + (toString i : Str).length ≤ sizeLine)
    (hk : env.scope.kind = .function) (hl : env.kindOf y = some .local) (hd : (y == ("__debug__" : Str)) = false) :
    PySem.HallX.MsgOk prog w env L m (.JoinedStr [.Constant (.str z) j p1, .FormattedValue (.Name y p2) (-1) none p3] pos) := fun A E s Q hn h => by
  refine wpAny_JoinedStr ?_
  rw [PySem.HallX.evalEach_cons, PySem.HallX.evalEach_cons, PySem.HallX.evalEach_nil]
  have e0 : (Str.empty ++ z) = z := by
    obtain ⟨a⟩ := z
    show (⟨#[] ++ a⟩ : Str) = ⟨a⟩
    simp
  refine Calls.Constant_str ⟨z, _, rfl, ?_, ?_⟩
  · rw [e0]; omega
  · rw [e0]
    refine wpAny_FormattedValue_plain (PySem.HallX.ldv (s := { s with toks := s.toks + 1 }) hn hL hv ?_ hk hl hd)
    refine wpAny_formatField_int hi ⟨_, _, rfl, ?_, ?_, ?_⟩
    · rw [Str.length_append]; exact hz
    · rw [Str.length_append]; exact hz
    · exact h _ _ _
theorem j_TooLarge (w : World) : PySem.HallX.Init1 PySem.Challenge.pw_lemmahall_k01_substitution w "limit" okI h_TooLarge.qual h_TooLarge.params h_TooLarge.body h_TooLarge.scope where
  head := ⟨_, rfl, rfl⟩
  bind := fun _ _ _ _ _ _ _ _ _ => rfl
  bd := ⟨_, _, _, _, _, _, _, _, _, _, _, rfl, fun L fI cc cd m v hv ⟨i, t, e, hi⟩ => by
      subst e
      exact msg_f2 rfl hv hi (Nat.le_trans (Nat.add_le_add_left (int_len hi) _) (by decide)) rfl rfl (by decide), fun _ _ => rfl, fun _ _ => rfl⟩
  hys := by decide
  hyd := by decide
  hks := rfl
  hkc := rfl
  hka := rfl
  hky := rfl
  hk := rfl
  hco := rfl
  hgen := rfl
  hcell := by decide +kernel
theorem w_raiseH {C : Addr} {y : Str} {okV : V → Prop} {W : WX} {ta : TA} {D : Ends} {σ : L2.St} {H : Hp} (h : ta σ H fun vs H1 => ∃ v, vs = [v] ∧ okV v ∧ ∀ d, H1 d = none → W (.ref C) (some d) σ (upd H1 d (.xd [(y, v)]))) : tRaiseH C y okV W ta D σ H := h
theorem small_log {n : Nat} (h : n ≤ 100000) : ((n : Int)).natAbs.log2 < 1920 := by
  rw [Int.natAbs_natCast]
  by_cases z : n = 0
  · subst z; decide
  · exact (Nat.log2_lt z).mpr (Nat.lt_of_le_of_lt h (Nat.lt_of_lt_of_le (by decide : 100000 < 2 ^ 17) (Nat.pow_le_pow_right (by decide) (by decide))))

def sp_ins (n : Nat) : Sp := sp3 fun x y z H Q _ => ∃ (g v : Gt) (l : Nat), TD H x (upT g).d ∧ TD H y (upT v).d ∧ z = .int (l : Int) ∧ g.dep ≤ n ∧
  ∀ u H', Same H H' → TD H' u (upT (subT (insL v) g l)).d → Q u H'
theorem ins_step (T : Txt w K mg) {fd : FuncData} (F : Fn_instantiated K fd) (hm : mg "_instantiated" = some (.ref (He.ga K "_instantiated"))) (n : Nat) (c_instantiated : CalX P w K mg base CX0 (n + 1) "_instantiated" (sp_ins n)) : CalX P w K mg base CX0 (n + 2) "_instantiated" (sp_ins (n + 1)) := by
  refine calx0 (k := n + 1) F hm sc_instantiated (b_instantiated F) (fun _ _ _ _ h => sp3_len h) (fun cdv A outer s H vs Q E hr h => ?_)
  obtain ⟨x0, x1, x2, rfl, h⟩ := h
  refine ⟨_, (pss_cons (ps_if (pt_cmpR op_eq (pe_ix ix_tup (pv 0) pe_int (fun _ _ => rfl)) pe_str (nomark _))
    (pss_one (ps_ret (pe_tup (pa_cons pe_str (pa_cons (pe_cx c_instantiated hr (Nat.le_refl _) rfl pass0 (pa_cons (pe_ix ix_tup (pv 0) pe_int (fun _ _ => rfl)) (pa_cons (pv 1) (pa_cons (pv 2) pa_nil)))) (pa_cons (pe_cx c_instantiated hr (Nat.le_refl _) rfl pass0 (pa_cons (pe_ix ix_tup (pv 0) pe_int (fun _ _ => rfl)) (pa_cons (pv 1) (pa_cons (pv 2) pa_nil)))) pa_nil))))))
    pss_nil)
    (pss_cons (ps_if (pt_cmpR op_eq (pe_ix ix_tup (pv 0) pe_int (fun _ _ => rfl)) pe_str (nomark _))
    (pss_one (ps_ret (pe_tup (pa_cons pe_str (pa_cons (pe_ix ix_tup (pv 0) pe_int (fun _ _ => rfl)) (pa_cons (pe_cx c_instantiated hr (Nat.le_refl _) rfl pass0 (pa_cons (pe_ix ix_tup (pv 0) pe_int (fun _ _ => rfl)) (pa_cons (pv 1) (pa_cons (pe_op op_addI (pv 2) pe_int) pa_nil)))) pa_nil))))))
    pss_nil)
    (pss_cons (ps_if (PW.pt (pw_and (pt_cmpR op_eq (pe_ix ix_tup (pv 0) pe_int (fun _ _ => rfl)) pe_str (nomark _)) (pw_and1 (pt_cmpR op_eq (pe_ix ix_tup (pv 0) pe_int (fun _ _ => rfl)) (pv 2) (nomark _)))))
    (pss_one (ps_ret (pv 1)))
    pss_nil)
    (pss_one (ps_ret (pv 0)))))), ?_⟩
  rw [show start ["part", "value", "level"] [x0, x1, x2] = [some x0, some x1, some x2] from rfl]
  have ec0 : Str.ofString "app" = S [97,112,112] := S_ofs (by decide +kernel)
  have ec1 : Str.ofString "lam" = S [108,97,109] := S_ofs (by decide +kernel)
  have ec2 : Str.ofString "bound" = S [98,111,117,110,100] := S_ofs (by decide +kernel)
  rw [ec0, ec1, ec2]
  obtain ⟨g, v, l, hx, hy, rfl, hn, hQ⟩ := h
  try dsimp only [cxOf]
  walk_at "v"
  cases g with
  | app f a =>
    have hx : TD H x0 (.tuple [.str (S wAPP), (upT f).d, (upT a).d]) := hx
    have hdp : max f.dep a.dep + 1 ≤ n + 1 := hn
    refine t_ixS (n := 0) hx rfl ?_
    walk_at "v"
    rw [show decide (wAPP = [97, 112, 112]) = true from by decide]
    walk_at "v"
    refine w_tupN ?_
    walk_at "v"
    refine t_ix (n := 1) hx rfl (fun y1 ty1 => ?_)
    walk_at "v"
    refine ⟨_, _, _, rfl, f, v, l, ty1, hy, rfl, by omega, fun v1 H1 s1 t1 => ?_⟩
    walk_at "v"
    refine t_ix (n := 2) (hx.tm (Tm.same s1)) rfl (fun y2 ty2 => ?_)
    walk_at "v"
    refine ⟨_, _, _, rfl, a, v, l, ty2, hy.tm (Tm.same s1), rfl, by omega, fun v2 H2 s2 t2 => ?_⟩
    walk_at "v"
    refine t_new (ds := [.str (S wAPP), (upT (subT (insL v) f l)).d, (upT (subT (insL v) a l)).d]) (.cons (.str _) (.cons (t1.tm (Tm.same s2)) (.cons t2 .nil))) (fun p3 H3 hp3 s3 t3 => ?_)
    exact hQ _ H3 ((s1.tr s2).tr s3) t3
  | lam j b =>
    have hx : TD H x0 (.tuple [.str (S wLAM), j.d, (upT b).d]) := hx
    have hdp : b.dep + 1 ≤ n + 1 := hn
    refine t_ixS (n := 0) hx rfl ?_
    walk_at "v"
    rw [show decide (wLAM = [97, 112, 112]) = false from by decide]
    walk_at "v"
    refine t_ixS (n := 0) hx rfl ?_
    walk_at "v"
    rw [show decide (wLAM = [108, 97, 109]) = true from by decide]
    walk_at "v"
    refine w_tupN ?_
    walk_at "v"
    refine t_ix (n := 1) hx rfl (fun y1 ty1 => ?_)
    walk_at "v"
    refine t_ix (n := 2) hx rfl (fun y2 ty2 => ?_)
    walk_at "v"
    rw [show ((l : Int) + 1) = ((l + 1 : Nat) : Int) by omega]
    refine ⟨_, _, _, rfl, b, v, l + 1, ty2, hy, rfl, by omega, fun v1 H1 s1 t1 => ?_⟩
    walk_at "v"
    refine t_new (ds := [.str (S wLAM), j.d, (upT (subT (insL v) b (l + 1))).d]) (.cons (.str _) (.cons (ty1.tm (Tm.same s1)) (.cons t1 .nil))) (fun p3 H3 hp3 s3 t3 => ?_)
    exact hQ _ H3 (s1.tr s3) t3
  | tip x =>
    obtain ⟨rest, ed⟩ := gw_d (.tip x)
    have m12 := gw_tip x
    have hx' : TD H x0 (.tuple (.str (S (gw (.tip x))) :: rest)) := by rw [← ed]; exact hx
    refine t_ixS (n := 0) hx' rfl ?_
    walk_at "v"
    rw [show decide (gw (.tip x) = [97, 112, 112]) = false from decide_eq_false m12.1]
    walk_at "v"
    refine t_ixS (n := 0) hx' rfl ?_
    walk_at "v"
    rw [show decide (gw (.tip x) = [108, 97, 109]) = false from decide_eq_false m12.2]
    walk_at "v"
    refine t_ixS (n := 0) hx' rfl ?_
    walk_at "v"
    have no : isB l x = false → Q x0 H := fun hb => hQ x0 H (Same.refl' H) (by
      show TD H x0 (upT (insL v l x)).d
      unfold insL
      rw [if_neg (by rw [hb]; decide)]; exact hx)
    cases x with
    | bnd i =>
      rw [show decide (gw (.tip (.bnd i)) = [98, 111, 117, 110, 100]) = true from (show decide (wBOUND = [98, 111, 117, 110, 100]) = true by decide)]
      walk_at "v"
      have hx2 : TD H x0 (.tuple [.str (S wBOUND), .int (i : Int)]) := hx
      refine t_ixI (n := 1) hx2 rfl ?_
      walk_at "v"
      refine w_dec (fun hb => ?_) (fun hb => ?_)
      · walk_at "v"
        refine hQ _ H (Same.refl' H) ?_
        show TD H x1 (upT (insL v l (.bnd i))).d
        unfold insL
        rw [if_pos (show isB l (.bnd i) = true from decide_eq_true (by omega))]; exact hy
      · walk_at "v"
        exact no (decide_eq_false (by omega))
    | var w' k' =>
      rw [show decide (gw (.tip (.var w' k')) = [98, 111, 117, 110, 100]) = false from (show decide (wVAR = [98, 111, 117, 110, 100]) = false by decide)]
      walk_at "v"
      exact no rfl
    | cst w' k' =>
      rw [show decide (gw (.tip (.cst w' k')) = [98, 111, 117, 110, 100]) = false from (show decide (wCONST = [98, 111, 117, 110, 100]) = false by decide)]
      walk_at "v"
      exact no rfl

theorem ins_all (T : Txt w K mg) {fd : FuncData} (F : Fn_instantiated K fd) (hm : mg "_instantiated" = some (.ref (He.ga K "_instantiated"))) : ∀ n, CalX P w K mg base CX0 (n + 1) "_instantiated" (sp_ins n)
  | 0 => calx0 (k := 0) F hm sc_instantiated (b_instantiated F) (fun _ _ _ _ h => sp3_len h) (fun cdv A outer s H vs Q E hr h => by
      obtain ⟨x0, x1, x2, rfl, g, _, _, _, _, _, hn, _⟩ := h
      have := g.dep_pos
      omega)
  | n + 1 => ins_step T F hm n (ins_all T F hm n)
end
end K01

namespace K01
open PySem PySem.Spec PyProof.Rows L2 SX K02
local macro_rules | `(tactic| walk_at "w1") => `(tactic| (first
  | with_reducible refine w_seq ?_ | with_reducible refine w_asgN ?_ | with_reducible refine w_c ?_
  | ((with_reducible refine' w_var ?wv ?_); (case wv => exact rfl))
  | with_reducible refine w_op ?_ | with_reducible refine w_un ?_ | with_reducible refine w_next ?_ | with_reducible refine w_brk ?_ | with_reducible refine w_cnt ?_
  | with_reducible refine w_ifS ?_ | with_reducible refine w_if ?_ | with_reducible refine w_test ?_ | with_reducible refine w_tB ?_ | with_reducible refine w_bl ?_ | with_reducible refine w_blI ?_
  | with_reducible refine w_and ?_ | with_reducible refine w_or ?_ | with_reducible refine w_not ?_ | with_reducible refine w_andV ?_ | with_reducible refine w_orV ?_ | with_reducible refine w_notV ?_
  | with_reducible refine w_nil ?_ | with_reducible refine w_cons ?_ | with_reducible refine w_cb ?_ | with_reducible refine w_call ?_ | with_reducible refine w_callS ?_ | with_reducible refine w_chain ?_
  | with_reducible refine w_tupN ?_ | with_reducible refine w_lstN ?_ | with_reducible refine w_sl ?_ | with_reducible refine w_noPart ?_ | with_reducible refine w_part ?_ | with_reducible refine w_partI ?_
  | with_reducible refine w_ret ?_ | with_reducible refine w_retN ?_ | with_reducible refine w_drop ?_ | with_reducible refine w_asg ?_ | with_reducible refine w_gSub ?_
  | ((with_reducible refine' w_aug ?wv ?_); (case wv => exact rfl)) | with_reducible refine w_ipI ?_
  | with_reducible refine w_addI ?_ | with_reducible refine w_subI ?_ | with_reducible refine w_ltI ?_ | with_reducible refine w_leI ?_ | with_reducible refine w_gtI ?_ | with_reducible refine w_geI ?_
  | with_reducible refine w_eqI ?_ | with_reducible refine w_neI ?_ | with_reducible refine w_eqT ?_ | with_reducible refine w_neT ?_ | with_reducible refine w_inS ?_ | with_reducible refine w_ninS ?_
  | with_reducible refine w_absI ?_ | with_reducible refine w_intI ?_ | with_reducible refine w_maxI ?_ | with_reducible refine w_minI ?_
  | with_reducible refine w_for ?_ | with_reducible refine w_iR1 ?_ | with_reducible refine w_iR2 ?_ | with_reducible refine w_iStr ?_ | with_reducible refine w_strI ?_ | with_reducible refine w_iList ?_ | with_reducible refine w_iTup ?_
  | with_reducible refine w_bm ?_ | with_reducible refine w_bm0 ?_ | with_reducible refine w_t ?_ | with_reducible refine w_f ?_ | with_reducible refine w_nt ?_ | with_reducible refine w_nx ?_ | with_reducible refine w_rt ?_ | with_reducible refine w_bk ?_ | with_reducible refine w_ct ?_ | with_reducible refine w_nf ?_ | with_reducible refine w_lc ?_ | with_reducible refine w_yes ?_ | with_reducible refine w_neg ?_ | with_reducible refine w_intB ?_ | with_reducible refine w_fld ?_ | with_reducible refine w_setf ?_ | with_reducible refine w_faug ?_ | with_reducible refine w_meth ?_ | with_reducible refine w_bmS ?_ | with_reducible refine w_start ?_ | with_reducible refine w_revL ?_ | with_reducible refine w_iR3 ?_))
local macro_rules | `(tactic| walk_at "w") => `(tactic| (repeat (first | walk_at "w1" | dsimp (config := { proj := false }) only [List.set_cons_zero, List.set_cons_succ])))
section
variable {w : World} {K : PySem.W.Frag} {mg : Str → Option Value} {base : Heap}
local macro_rules | `(tactic| walk_at "v1") => `(tactic| (first
  | with_reducible refine w_seq ?_ | with_reducible refine w_asgN ?_ | with_reducible refine w_c ?_
  | ((with_reducible refine' w_var ?wv ?_); (case wv => exact rfl))
  | with_reducible refine w_op ?_ | with_reducible refine w_un ?_ | with_reducible refine w_next ?_ | with_reducible refine w_brk ?_ | with_reducible refine w_cnt ?_
  | with_reducible refine w_ifS ?_ | with_reducible refine w_if ?_ | with_reducible refine w_test ?_ | with_reducible refine w_tB ?_ | with_reducible refine w_bl ?_ | with_reducible refine w_blI ?_
  | with_reducible refine w_and ?_ | with_reducible refine w_or ?_ | with_reducible refine w_not ?_ | with_reducible refine w_andV ?_ | with_reducible refine w_orV ?_ | with_reducible refine w_notV ?_
  | with_reducible refine w_nil ?_ | with_reducible refine w_cons ?_ | with_reducible refine w_cb ?_ | with_reducible refine w_call ?_ | with_reducible refine w_callS ?_ | with_reducible refine w_chain ?_
  | with_reducible refine w_sl ?_ | with_reducible refine w_noPart ?_ | with_reducible refine w_part ?_ | with_reducible refine w_partI ?_
  | with_reducible refine w_ret ?_ | with_reducible refine w_retN ?_ | with_reducible refine w_drop ?_ | with_reducible refine w_asg ?_ | with_reducible refine w_gSub ?_
  | ((with_reducible refine' w_aug ?wv ?_); (case wv => exact rfl)) | with_reducible refine w_ipI ?_
  | with_reducible refine w_addI ?_ | with_reducible refine w_subI ?_ | with_reducible refine w_ltI ?_ | with_reducible refine w_leI ?_ | with_reducible refine w_gtI ?_ | with_reducible refine w_geI ?_
  | with_reducible refine w_eqI ?_ | with_reducible refine w_neI ?_ | with_reducible refine w_eqT ?_ | with_reducible refine w_neT ?_ | with_reducible refine w_inS ?_ | with_reducible refine w_ninS ?_
  | with_reducible refine w_absI ?_ | with_reducible refine w_intI ?_ | with_reducible refine w_maxI ?_ | with_reducible refine w_minI ?_
  | with_reducible refine w_for ?_ | with_reducible refine w_iR1 ?_ | with_reducible refine w_iR2 ?_ | with_reducible refine w_iStr ?_ | with_reducible refine w_strI ?_ | with_reducible refine w_iList ?_ | with_reducible refine w_iTup ?_
  | with_reducible refine w_bm ?_ | with_reducible refine w_bm0 ?_ | with_reducible refine w_t ?_ | with_reducible refine w_f ?_ | with_reducible refine w_nt ?_ | with_reducible refine w_nx ?_ | with_reducible refine w_rt ?_ | with_reducible refine w_bk ?_ | with_reducible refine w_ct ?_ | with_reducible refine w_nf ?_ | with_reducible refine w_lc ?_ | with_reducible refine w_yes ?_ | with_reducible refine w_neg ?_ | with_reducible refine w_intB ?_ | with_reducible refine w_fld ?_ | with_reducible refine w_setf ?_ | with_reducible refine w_faug ?_ | with_reducible refine w_meth ?_ | with_reducible refine w_bmS ?_ | with_reducible refine w_start ?_ | with_reducible refine w_revL ?_ | with_reducible refine w_iR3 ?_))
local macro_rules | `(tactic| walk_at "v") => `(tactic| (repeat (first | walk_at "v1" | dsimp (config := { proj := false }) only [List.set_cons_zero, List.set_cons_succ])))
local macro_rules | `(tactic| walk_at "d") => `(tactic| (repeat (first | exact eva_nil | refine eva_cons ?_ ?_ | exact ev_str | exact ev_int | exact ev_neg | refine ev_tup ?_ | (refine ev_var rfl ?_; assumption))))


def isBt (l : Nat) : Gt → Bool
  | .tip x => isB l x
  | _ => false
def cntP (m : Nat) (es : List (Gt × Nat)) : Nat := (es.map fun e => if isBt e.2 e.1 then m else 1).sum
theorem cntP_app (m : Nat) (a b : List (Gt × Nat)) : cntP m (a ++ b) = cntP m a + cntP m b := by unfold cntP; rw [List.map_append, List.sum_append]
theorem cntP_cons (m : Nat) (e : Gt × Nat) (b : List (Gt × Nat)) : cntP m (e :: b) = (if isBt e.2 e.1 then m else 1) + cntP m b := rfl
theorem cnt_ins (v : Gt) : ∀ (g : Gt) (l : Nat), cntP v.nodes (pts g l) = (subT (insL v) g l).nodes
  | .app f a, l => by
    show cntP v.nodes ((.app f a, l) :: (pts f l ++ pts a l)) = (subT (insL v) f l).nodes + (subT (insL v) a l).nodes + 1
    rw [cntP_cons, cntP_app, cnt_ins v f, cnt_ins v a]
    show 1 + _ = _
    omega
  | .lam j b, l => by
    show cntP v.nodes ((.lam j b, l) :: pts b (l + 1)) = (subT (insL v) b (l + 1)).nodes + 1
    rw [cntP_cons, cnt_ins v b]
    show 1 + _ = _
    omega
  | .tip x, l => by
    show (if isB l x then v.nodes else 1) + 0 = (insL v l x).nodes
    unfold insL
    cases isB l x <;> rfl
def sp_instantiate (K : PySem.W.Frag) : Sp := sp2 fun x y H Q E => ∃ g v : Gt, TD H x (upT g).d ∧ TD H y (upT v).d ∧ g.dep ≤ 130 ∧ g.nodes ≤ 500 ∧ v.nodes ≤ 500 ∧
  (400 < (subT (insL v) g 0).nodes → ∀ d H', Same H H' → H' d = some (.xd [("limit", .int 400)]) → E (.ref (He.ga K "TooLarge")) (some d) H') ∧
  ((subT (insL v) g 0).nodes ≤ 400 → ∀ u H', Same H H' → TD H' u (upT (subT (insL v) g 0)).d → Q u H')
theorem ok_instantiate (T : Txt w K mg) {fd : FuncData} (F : Fn_instantiate K fd) (hm : mg "instantiate" = some (.ref (He.ga K "instantiate"))) (c_measure : CalX P w K mg base CX0 1 "measure" sp_measure)(c_parts : CalX P w K mg base CX0 1 "_parts" sp_parts)(c_instantiated : CalX P w K mg base CX0 131 "_instantiated" (sp_ins 130)) : CalX P w K mg base (L2.CX P w) 132 "instantiate" (sp_instantiate K) := by
  refine calxX (k := 131) F hm sc_instantiate (b_instantiate F) (fun _ _ _ _ h => sp2_len h) (fun cdv A outer s H vs Q E hr h => ?_)
  obtain ⟨x0, x1, rfl, h⟩ := h
  refine ⟨_, (pss_cons (ps_set (i := 2) sc_instantiate.nd rfl (Or.inl rfl) (pe_ix ix_tup (pe_cx c_measure hr (by decide) rfl pass0 (pa_cons (pv 1) pa_nil)) pe_int (fun _ _ => rfl)))
    (pss_cons (ps_set (i := 3) sc_instantiate.nd rfl (Or.inl rfl) pe_int)
    (pss_cons (ps_for (passes_of rfl) rfl (pi_list (pe_cx c_parts hr (by decide) rfl pass0 (pa_cons (pv 0) pa_nil))) (pg_tup (by rfl) (pgs_cons (pg_name (i := 4) sc_instantiate.nd rfl (Or.inl rfl)) (pgs_cons (pg_name (i := 5) sc_instantiate.nd rfl (Or.inl rfl)) pgs_nil)))
    (pss_one (ps_if (PW.pt (pw_and (pt_cmpR op_eq (pe_ix ix_tup (pv 4) pe_int (fun _ _ => rfl)) pe_str (nomark _)) (pw_and1 (pt_cmpR op_eq (pe_ix ix_tup (pv 4) pe_int (fun _ _ => rfl)) (pv 5) (nomark _)))))
    (pss_one (ps_aug (i := 3) sc_instantiate.nd rfl (Or.inl rfl) (pv 2) ip_add))
    (pss_one (ps_aug (i := 3) sc_instantiate.nd rfl (Or.inl rfl) pe_int ip_add)))))
    (pss_cons (ps_if (pt_cmpR op_gtI (pv 3) (pe_gv T.v_MAX_NODES) (nomark _))
    (pss_one (ps_raiseH rfl T.h_TooLarge (j_TooLarge _) T.n_TooLarge okH hr (takes_of rfl rfl rfl rfl) (pa_cons (pe_gv T.v_MAX_NODES) pa_nil) rfl))
    pss_nil)
    (pss_one (ps_ret (pe_cx c_instantiated hr (by decide) rfl pass0 (pa_cons (pv 0) (pa_cons (pv 1) (pa_cons pe_int pa_nil)))))))))), ?_⟩
  rw [show start ["body", "value", "each", "many", "part", "level"] [x0, x1] = [some x0, some x1, none, none, none, none] from rfl]
  have ec0 : Str.ofString "bound" = S [98,111,117,110,100] := S_ofs (by decide +kernel)
  rw [ec0]
  obtain ⟨g, v, hx, hy, hdp, hng, hnv, hE, hQ⟩ := h
  try dsimp only [cxOf]
  walk_at "v"
  refine ⟨_, rfl, v, hy, by omega, fun m H1 s1 t1 => ?_⟩
  refine t_ixI (n := 0) t1 rfl ?_
  walk_at "v"
  refine ⟨_, rfl, g, hx.tm (Tm.same s1), by omega, fun q H2 hq s2 d2 => ?_⟩
  have s02 := s1.tr s2
  walk_at "v"
  obtain ⟨xs, eq, tq⟩ := d2
  refine w_lstI (SqL.of eq) ?_
  have lx : xs.length = g.nodes := by rw [tq.len]; unfold wm; rw [List.length_map, pts_len]
  have hbd : ∀ es : List (Gt × Nat), cntP v.nodes es ≤ es.length * 501 := fun es => by
    induction es with
    | nil => exact Nat.zero_le _
    | cons e es ih =>
      rw [cntP_cons, List.length_cons, Nat.succ_mul]
      split <;> omega
  refine for_list (xs := xs) (fun i σ H' => ∃ (many : Nat) (v4 v5 : Option V), σ = [some x0, some x1, some (.int (v.nodes : Int)), some (.int (many : Int)), v4, v5] ∧ Same H2 H' ∧ many = cntP v.nodes ((pts g 0).take i))
    ⟨0, _, _, rfl, Same.refl' _, rfl⟩ (fun i σ H' _ h => by obtain ⟨_, _, _, _, h, _⟩ := h; exact SqL.of (h _ _ eq)) ?_ ?_
  · rintro i x σ H3 hi ⟨many, v4, v5, rfl, s3, hmany⟩
    obtain ⟨d, ed, td⟩ := (tq.tm (Tm.same s3)).get' hi
    obtain ⟨e, ee, rfl⟩ : ∃ e, (pts g 0)[i]? = some e ∧ d = .tuple [(upT e.1).d, .int (e.2 : Int)] := by
      unfold wm at ed
      rw [List.getElem?_map] at ed
      cases z : (pts g 0)[i]? with
      | none => rw [z] at ed; cases ed
      | some e => rw [z] at ed; exact ⟨e, rfl, (Option.some.inj ed).symm⟩
    obtain ⟨t, l⟩ := e
    have hnx : cntP v.nodes ((pts g 0).take (i + 1)) = many + (if isBt l t then v.nodes else 1) := by
      rw [List.take_add_one, ee, cntP_app, ← hmany]; rfl
    obtain ⟨q2, qs, rfl, hq2, tqs⟩ := td.tuple
    obtain ⟨y, z, rfl, ty, tz⟩ := tqs.two
    rw [tz.num] at hq2
    refine w_un2 rfl hq2 ?_
    walk_at "v"
    have ty : TD H3 y (upT t).d := ty
    have one : isBt l t = false → ∀ {u4 u5 : Option V}, ∃ (many' : Nat) (v4 v5 : Option V), [some x0, some x1, some (.int (v.nodes : Int)), some (.int ((many : Int) + 1)), u4, u5] = [some x0, some x1, some (.int (v.nodes : Int)), some (.int (many' : Int)), v4, v5] ∧ Same H2 H3 ∧ many' = cntP v.nodes ((pts g 0).take (i + 1)) := fun hb {u4 u5} =>
      ⟨many + 1, u4, u5, by rw [show ((many : Int) + 1) = ((many + 1 : Nat) : Int) by omega], s3, by rw [hnx, hb]; rfl⟩
    cases t with
    | app f a =>
      rw [show (upT (.app f a)).d = .tuple [.str (S wAPP), (upT f).d, (upT a).d] from rfl] at ty
      refine t_ixS (n := 0) ty rfl ?_
      walk_at "v"
      rw [show decide (wAPP = [98, 111, 117, 110, 100]) = false from by decide]
      walk_at "v"
      exact one rfl
    | lam j b =>
      rw [show (upT (.lam j b)).d = .tuple [.str (S wLAM), j.d, (upT b).d] from rfl] at ty
      refine t_ixS (n := 0) ty rfl ?_
      walk_at "v"
      rw [show decide (wLAM = [98, 111, 117, 110, 100]) = false from by decide]
      walk_at "v"
      exact one rfl
    | tip x =>
      cases x with
      | bnd j =>
        have ty : TD H3 y (.tuple [.str (S wBOUND), .int (j : Int)]) := ty
        refine t_ixS (n := 0) ty rfl ?_
        walk_at "v"
        rw [show decide (wBOUND = [98, 111, 117, 110, 100]) = true from by decide]
        walk_at "v"
        refine t_ixI (n := 1) ty rfl ?_
        walk_at "v"
        refine w_dec (fun hb => ?_) (fun hb => ?_)
        · walk_at "v"
          refine ⟨many + v.nodes, _, _, by rw [show ((many : Int) + (v.nodes : Int)) = ((many + v.nodes : Nat) : Int) by omega], s3, by rw [hnx, show isBt l (.tip (.bnd j)) = true from decide_eq_true (by omega)]; rfl⟩
        · walk_at "v"
          exact one (decide_eq_false (by omega))
      | var w' k' =>
        have ty : TD H3 y (.tuple [.str (S wVAR), .str (S w'), k'.d]) := ty
        refine t_ixS (n := 0) ty rfl ?_
        walk_at "v"
        rw [show decide (wVAR = [98, 111, 117, 110, 100]) = false from by decide]
        walk_at "v"
        exact one rfl
      | cst w' k' =>
        have ty : TD H3 y (.tuple [.str (S wCONST), .str (S w'), k'.d]) := ty
        refine t_ixS (n := 0) ty rfl ?_
        walk_at "v"
        rw [show decide (wCONST = [98, 111, 117, 110, 100]) = false from by decide]
        walk_at "v"
        exact one rfl
  · rintro σ H3 ⟨many, v4, v5, rfl, s3, hmany⟩
    rw [List.take_of_length_le (by rw [pts_len]; omega), cnt_ins] at hmany
    walk_at "v"
    refine w_dec (fun hb => ?_) (fun hb => ?_)
    · walk_at "v"
      refine w_raiseH ?_
      walk_at "v"
      refine ⟨_, rfl, ⟨_, rfl, small_log (n := 400) (by omega)⟩, fun d hd => ?_⟩
      exact hE (by omega) d _ ((s02.tr s3).tr (same_upd hd)) upd_same
    · walk_at "v"
      have s03 := s02.tr s3
      exact ⟨_, _, _, rfl, g, v, 0, hx.tm (Tm.same s03), hy.tm (Tm.same s03), rfl, hdp, fun u H4 s4 t4 => hQ (by omega) u H4 (s03.tr s4) t4⟩

def sp_var : Sp := sp2 fun x y H Q _ => ∃ (w : List Nat) (k : Kd), x = .str (S w) ∧ TD H y k.d ∧ ∀ v H', Same H H' → TD H' v (Lf.var w k).d → Q v H'
theorem ok_var (T : Txt w K mg) {fd : FuncData} (F : Fn_var K fd) (hm : mg "var" = some (.ref (He.ga K "var")))  : CalX P w K mg base CX0 1 "var" sp_var := by
  refine calx0 (k := 0) F hm sc_var (b_var F) (fun _ _ _ _ h => sp2_len h) (fun cdv A outer s H vs Q E hr h => ?_)
  obtain ⟨x0, x1, rfl, h⟩ := h
  refine ⟨_, (pss_one (ps_ret (pe_tup (pa_cons pe_str (pa_cons (pv 0) (pa_cons (pv 1) pa_nil)))))), ?_⟩
  rw [show start ["name", "kind"] [x0, x1] = [some x0, some x1] from rfl]
  have ec0 : Str.ofString "var" = S [118,97,114] := S_ofs (by decide +kernel)
  rw [ec0]
  obtain ⟨w, k, rfl, hk, hQ⟩ := h
  try dsimp only [cxOf]
  walk_at "v"
  exact ev_go (d := (Lf.var w k).d) (ev_tup (eva_cons ev_str (eva_cons (ev_var rfl (.str _)) (eva_cons (ev_var rfl hk) eva_nil)))) hQ

def sp_const : Sp := sp2 fun x y H Q _ => ∃ (w : List Nat) (k : Kd), x = .str (S w) ∧ TD H y k.d ∧ ∀ v H', Same H H' → TD H' v (Lf.cst w k).d → Q v H'
theorem ok_const (T : Txt w K mg) {fd : FuncData} (F : Fn_const K fd) (hm : mg "const" = some (.ref (He.ga K "const")))  : CalX P w K mg base CX0 1 "const" sp_const := by
  refine calx0 (k := 0) F hm sc_const (b_const F) (fun _ _ _ _ h => sp2_len h) (fun cdv A outer s H vs Q E hr h => ?_)
  obtain ⟨x0, x1, rfl, h⟩ := h
  refine ⟨_, (pss_one (ps_ret (pe_tup (pa_cons pe_str (pa_cons (pv 0) (pa_cons (pv 1) pa_nil)))))), ?_⟩
  rw [show start ["name", "kind"] [x0, x1] = [some x0, some x1] from rfl]
  have ec0 : Str.ofString "const" = S [99,111,110,115,116] := S_ofs (by decide +kernel)
  rw [ec0]
  obtain ⟨w, k, rfl, hk, hQ⟩ := h
  try dsimp only [cxOf]
  walk_at "v"
  exact ev_go (d := (Lf.cst w k).d) (ev_tup (eva_cons ev_str (eva_cons (ev_var rfl (.str _)) (eva_cons (ev_var rfl hk) eva_nil)))) hQ
end
end K01

namespace K01
open PySem PySem.Spec PyProof.Rows L2 SX K02
local macro_rules | `(tactic| walk_at "w1") => `(tactic| (first
  | with_reducible refine w_seq ?_ | with_reducible refine w_asgN ?_ | with_reducible refine w_c ?_
  | ((with_reducible refine' w_var ?wv ?_); (case wv => exact rfl))
  | with_reducible refine w_op ?_ | with_reducible refine w_un ?_ | with_reducible refine w_next ?_ | with_reducible refine w_brk ?_ | with_reducible refine w_cnt ?_
  | with_reducible refine w_ifS ?_ | with_reducible refine w_if ?_ | with_reducible refine w_test ?_ | with_reducible refine w_tB ?_ | with_reducible refine w_bl ?_ | with_reducible refine w_blI ?_
  | with_reducible refine w_and ?_ | with_reducible refine w_or ?_ | with_reducible refine w_not ?_ | with_reducible refine w_andV ?_ | with_reducible refine w_orV ?_ | with_reducible refine w_notV ?_
  | with_reducible refine w_nil ?_ | with_reducible refine w_cons ?_ | with_reducible refine w_cb ?_ | with_reducible refine w_call ?_ | with_reducible refine w_callS ?_ | with_reducible refine w_chain ?_
  | with_reducible refine w_tupN ?_ | with_reducible refine w_lstN ?_ | with_reducible refine w_sl ?_ | with_reducible refine w_noPart ?_ | with_reducible refine w_part ?_ | with_reducible refine w_partI ?_
  | with_reducible refine w_ret ?_ | with_reducible refine w_retN ?_ | with_reducible refine w_drop ?_ | with_reducible refine w_asg ?_ | with_reducible refine w_gSub ?_
  | ((with_reducible refine' w_aug ?wv ?_); (case wv => exact rfl)) | with_reducible refine w_ipI ?_
  | with_reducible refine w_addI ?_ | with_reducible refine w_subI ?_ | with_reducible refine w_ltI ?_ | with_reducible refine w_leI ?_ | with_reducible refine w_gtI ?_ | with_reducible refine w_geI ?_
  | with_reducible refine w_eqI ?_ | with_reducible refine w_neI ?_ | with_reducible refine w_eqT ?_ | with_reducible refine w_neT ?_ | with_reducible refine w_inS ?_ | with_reducible refine w_ninS ?_
  | with_reducible refine w_absI ?_ | with_reducible refine w_intI ?_ | with_reducible refine w_maxI ?_ | with_reducible refine w_minI ?_
  | with_reducible refine w_for ?_ | with_reducible refine w_iR1 ?_ | with_reducible refine w_iR2 ?_ | with_reducible refine w_iStr ?_ | with_reducible refine w_strI ?_ | with_reducible refine w_iList ?_ | with_reducible refine w_iTup ?_
  | with_reducible refine w_bm ?_ | with_reducible refine w_bm0 ?_ | with_reducible refine w_t ?_ | with_reducible refine w_f ?_ | with_reducible refine w_nt ?_ | with_reducible refine w_nx ?_ | with_reducible refine w_rt ?_ | with_reducible refine w_bk ?_ | with_reducible refine w_ct ?_ | with_reducible refine w_nf ?_ | with_reducible refine w_lc ?_ | with_reducible refine w_yes ?_ | with_reducible refine w_neg ?_ | with_reducible refine w_intB ?_ | with_reducible refine w_fld ?_ | with_reducible refine w_setf ?_ | with_reducible refine w_faug ?_ | with_reducible refine w_meth ?_ | with_reducible refine w_bmS ?_ | with_reducible refine w_start ?_ | with_reducible refine w_revL ?_ | with_reducible refine w_iR3 ?_))
local macro_rules | `(tactic| walk_at "w") => `(tactic| (repeat (first | walk_at "w1" | dsimp (config := { proj := false }) only [List.set_cons_zero, List.set_cons_succ])))
section
variable {w : World} {K : PySem.W.Frag} {mg : Str → Option Value} {base : Heap}
local macro_rules | `(tactic| walk_at "v1") => `(tactic| (first
  | with_reducible refine w_seq ?_ | with_reducible refine w_asgN ?_ | with_reducible refine w_c ?_
  | ((with_reducible refine' w_var ?wv ?_); (case wv => exact rfl))
  | with_reducible refine w_op ?_ | with_reducible refine w_un ?_ | with_reducible refine w_next ?_ | with_reducible refine w_brk ?_ | with_reducible refine w_cnt ?_
  | with_reducible refine w_ifS ?_ | with_reducible refine w_if ?_ | with_reducible refine w_test ?_ | with_reducible refine w_tB ?_ | with_reducible refine w_bl ?_ | with_reducible refine w_blI ?_
  | with_reducible refine w_and ?_ | with_reducible refine w_or ?_ | with_reducible refine w_not ?_ | with_reducible refine w_andV ?_ | with_reducible refine w_orV ?_ | with_reducible refine w_notV ?_
  | with_reducible refine w_nil ?_ | with_reducible refine w_cons ?_ | with_reducible refine w_cb ?_ | with_reducible refine w_call ?_ | with_reducible refine w_callS ?_ | with_reducible refine w_chain ?_
  | with_reducible refine w_sl ?_ | with_reducible refine w_noPart ?_ | with_reducible refine w_part ?_ | with_reducible refine w_partI ?_
  | with_reducible refine w_ret ?_ | with_reducible refine w_retN ?_ | with_reducible refine w_drop ?_ | with_reducible refine w_asg ?_ | with_reducible refine w_gSub ?_
  | ((with_reducible refine' w_aug ?wv ?_); (case wv => exact rfl)) | with_reducible refine w_ipI ?_
  | with_reducible refine w_addI ?_ | with_reducible refine w_subI ?_ | with_reducible refine w_ltI ?_ | with_reducible refine w_leI ?_ | with_reducible refine w_gtI ?_ | with_reducible refine w_geI ?_
  | with_reducible refine w_eqI ?_ | with_reducible refine w_neI ?_ | with_reducible refine w_eqT ?_ | with_reducible refine w_neT ?_ | with_reducible refine w_inS ?_ | with_reducible refine w_ninS ?_
  | with_reducible refine w_absI ?_ | with_reducible refine w_intI ?_ | with_reducible refine w_maxI ?_ | with_reducible refine w_minI ?_
  | with_reducible refine w_for ?_ | with_reducible refine w_iR1 ?_ | with_reducible refine w_iR2 ?_ | with_reducible refine w_iStr ?_ | with_reducible refine w_strI ?_ | with_reducible refine w_iList ?_ | with_reducible refine w_iTup ?_
  | with_reducible refine w_bm ?_ | with_reducible refine w_bm0 ?_ | with_reducible refine w_t ?_ | with_reducible refine w_f ?_ | with_reducible refine w_nt ?_ | with_reducible refine w_nx ?_ | with_reducible refine w_rt ?_ | with_reducible refine w_bk ?_ | with_reducible refine w_ct ?_ | with_reducible refine w_nf ?_ | with_reducible refine w_lc ?_ | with_reducible refine w_yes ?_ | with_reducible refine w_neg ?_ | with_reducible refine w_intB ?_ | with_reducible refine w_fld ?_ | with_reducible refine w_setf ?_ | with_reducible refine w_faug ?_ | with_reducible refine w_meth ?_ | with_reducible refine w_bmS ?_ | with_reducible refine w_start ?_ | with_reducible refine w_revL ?_ | with_reducible refine w_iR3 ?_))
local macro_rules | `(tactic| walk_at "v") => `(tactic| (repeat (first | walk_at "v1" | dsimp (config := { proj := false }) only [List.set_cons_zero, List.set_cons_succ])))
local macro_rules | `(tactic| walk_at "d") => `(tactic| (repeat (first | exact eva_nil | refine eva_cons ?_ ?_ | exact ev_str | exact ev_int | exact ev_neg | refine ev_tup ?_ | (refine ev_var rfl ?_; assumption))))


def sp_kw (n : Nat) : Sp := sp2 fun x y H Q _ => ∃ (g : Gt) (ar : List Kd) (k : Kd), TD H x (upT g).d ∧ TD H y (arD ar) ∧ typed g ar = some k ∧ g.dep ≤ n ∧ ar.length + n ≤ 1000 ∧ ∀ v H', Same H H' → TD H' v k.d → Q v H'
theorem kw_step (T : Txt w K mg) {fd : FuncData} (F : Fn_kind_within K fd) (hm : mg "kind_within" = some (.ref (He.ga K "kind_within"))) (n : Nat) (c_kind_within : CalX P w K mg base CX0 (n + 1) "kind_within" (sp_kw n)) : CalX P w K mg base CX0 (n + 2) "kind_within" (sp_kw (n + 1)) := by
  refine calx0 (k := n + 1) F hm sc_kind_within (b_kind_within F) (fun _ _ _ _ h => sp2_len h) (fun cdv A outer s H vs Q E hr h => ?_)
  obtain ⟨x0, x1, rfl, h⟩ := h
  refine ⟨_, (pss_cons (ps_if (pt_cmpR op_eq (pe_ix ix_tup (pv 0) pe_int (fun _ _ => rfl)) pe_str (nomark _))
    (pss_one (ps_ret (pe_ix ix_tup (pe_cx c_kind_within hr (Nat.le_refl _) rfl pass0 (pa_cons (pe_ix ix_tup (pv 0) pe_int (fun _ _ => rfl)) (pa_cons (pv 1) pa_nil))) pe_int (fun _ _ => rfl))))
    pss_nil)
    (pss_cons (ps_if (pt_cmpR op_eq (pe_ix ix_tup (pv 0) pe_int (fun _ _ => rfl)) pe_str (nomark _))
    (pss_one (ps_ret (pe_tup (pa_cons pe_str (pa_cons (pe_ix ix_tup (pv 0) pe_int (fun _ _ => rfl)) (pa_cons (pe_cx c_kind_within hr (Nat.le_refl _) rfl pass0 (pa_cons (pe_ix ix_tup (pv 0) pe_int (fun _ _ => rfl)) (pa_cons (pe_op op_catT (pe_tup (pa_cons (pe_ix ix_tup (pv 0) pe_int (fun _ _ => rfl)) pa_nil)) (pv 1)) pa_nil))) pa_nil))))))
    pss_nil)
    (pss_cons (ps_if (pt_cmpR op_eq (pe_ix ix_tup (pv 0) pe_int (fun _ _ => rfl)) pe_str (nomark _))
    (pss_one (ps_ret (pe_ix ix_tup (pv 1) (pe_ix ix_tup (pv 0) pe_int (fun _ _ => rfl)) (fun _ _ => rfl))))
    pss_nil)
    (pss_one (ps_ret (pe_ix ix_tup (pv 0) pe_int (fun _ _ => rfl))))))), ?_⟩
  rw [show start ["part", "around"] [x0, x1] = [some x0, some x1] from rfl]
  have ec0 : Str.ofString "app" = S [97,112,112] := S_ofs (by decide +kernel)
  have ec1 : Str.ofString "lam" = S [108,97,109] := S_ofs (by decide +kernel)
  have ec2 : Str.ofString "bound" = S [98,111,117,110,100] := S_ofs (by decide +kernel)
  have ec3 : Str.ofString "to" = S [116,111] := S_ofs (by decide +kernel)
  rw [ec0, ec1, ec2, ec3]
  obtain ⟨g, ar, k, hx, hy, ht, hn, hl, hQ⟩ := h
  try dsimp only [cxOf]
  walk_at "v"
  cases g with
  | app f a =>
    have hx : TD H x0 (.tuple [.str (S wAPP), (upT f).d, (upT a).d]) := hx
    have hdp : max f.dep a.dep + 1 ≤ n + 1 := hn
    refine t_ixS (n := 0) hx rfl ?_
    walk_at "v"
    rw [show decide (wAPP = [97, 112, 112]) = true from by decide]
    walk_at "v"
    refine t_ix (n := 1) hx rfl (fun y1 ty1 => ?_)
    walk_at "v"
    obtain ⟨z, hz⟩ : ∃ z, typed f ar = some (.to z k) := by
      unfold typed at ht
      split at ht
      · rename_i x y z e1 e2
        split at ht
        · cases ht; exact ⟨_, e1⟩
        · cases ht
      · cases ht
    refine ⟨_, _, rfl, f, ar, .to z k, ty1, hy, hz, by omega, by omega, fun v1 H1 s1 t1 => ?_⟩
    have t1 : TD H1 v1 (.tuple [.str (S wTO), z.d, k.d]) := t1
    refine t_ix (n := 2) t1 rfl (fun v2 t2 => ?_)
    exact hQ v2 H1 s1 t2
  | lam j b =>
    have hx : TD H x0 (.tuple [.str (S wLAM), j.d, (upT b).d]) := hx
    have hdp : b.dep + 1 ≤ n + 1 := hn
    refine t_ixS (n := 0) hx rfl ?_
    walk_at "v"
    rw [show decide (wLAM = [97, 112, 112]) = false from by decide]
    walk_at "v"
    refine t_ixS (n := 0) hx rfl ?_
    walk_at "v"
    rw [show decide (wLAM = [108, 97, 109]) = true from by decide]
    walk_at "v"
    obtain ⟨kb, hkb, rfl⟩ : ∃ kb, typed b (j :: ar) = some kb ∧ k = .to j kb := by
      unfold typed at ht
      split at ht
      · rename_i x e1; cases ht; exact ⟨_, e1, rfl⟩
      · cases ht
    refine w_tupN ?_
    walk_at "v"
    refine t_ix (n := 1) hx rfl (fun y1 ty1 => ?_)
    walk_at "v"
    refine t_ix (n := 2) hx rfl (fun y2 ty2 => ?_)
    walk_at "v"
    refine w_tupN ?_
    walk_at "v"
    refine t_ix (n := 1) hx rfl (fun y3 ty3 => ?_)
    walk_at "v"
    refine t_new (ds := [j.d]) (.cons ty3 .nil) (fun p3 H3 hp3 s3 t3 => ?_)
    walk_at "v"
    refine t_cat t3 (hy.tm (Tm.same s3)) (by simp) (fun z4 H4 s4 t4 => ?_) (by rw [List.length_map]; show 1 + ar.length ≤ 100000; omega)
    walk_at "v"
    have s34 := s3.tr s4
    refine ⟨_, _, rfl, b, j :: ar, kb, ty2.tm (Tm.same s34), t4, hkb, by omega, by rw [List.length_cons]; omega, fun v1 H1 s1 t1 => ?_⟩
    walk_at "v"
    refine t_new (ds := [.str (S wTO), j.d, kb.d]) (.cons (.str _) (.cons (ty1.tm (Tm.same (s34.tr s1))) (.cons t1 .nil))) (fun p5 H5 hp5 s5 t5 => ?_)
    exact hQ _ H5 ((s34.tr s1).tr s5) t5
  | tip x =>
    obtain ⟨rest, ed⟩ := gw_d (.tip x)
    have m12 := gw_tip x
    have hx' : TD H x0 (.tuple (.str (S (gw (.tip x))) :: rest)) := by rw [← ed]; exact hx
    refine t_ixS (n := 0) hx' rfl ?_
    walk_at "v"
    rw [show decide (gw (.tip x) = [97, 112, 112]) = false from decide_eq_false m12.1]
    walk_at "v"
    refine t_ixS (n := 0) hx' rfl ?_
    walk_at "v"
    rw [show decide (gw (.tip x) = [108, 97, 109]) = false from decide_eq_false m12.2]
    walk_at "v"
    refine t_ixS (n := 0) hx' rfl ?_
    walk_at "v"
    cases x with
    | bnd i =>
      rw [show decide (gw (.tip (.bnd i)) = [98, 111, 117, 110, 100]) = true from (show decide (wBOUND = [98, 111, 117, 110, 100]) = true by decide)]
      walk_at "v"
      have hx2 : TD H x0 (.tuple [.str (S wBOUND), .int (i : Int)]) := hx
      have ht : ar[i]? = some k := ht
      refine t_ixI (n := 1) hx2 rfl ?_
      refine t_ix (n := i) hy (by rw [List.getElem?_map, ht]; rfl) (fun y2 ty2 => ?_)
      exact hQ y2 H (Same.refl' H) ty2
    | var w' k' =>
      rw [show decide (gw (.tip (.var w' k')) = [98, 111, 117, 110, 100]) = false from (show decide (wVAR = [98, 111, 117, 110, 100]) = false by decide)]
      walk_at "v"
      have hx2 : TD H x0 (.tuple [.str (S wVAR), .str (S w'), k'.d]) := hx
      have ht : some k' = some k := ht
      cases ht
      refine t_ix (n := 2) hx2 rfl (fun y2 ty2 => ?_)
      exact hQ y2 H (Same.refl' H) ty2
    | cst w' k' =>
      rw [show decide (gw (.tip (.cst w' k')) = [98, 111, 117, 110, 100]) = false from (show decide (wCONST = [98, 111, 117, 110, 100]) = false by decide)]
      walk_at "v"
      have hx2 : TD H x0 (.tuple [.str (S wCONST), .str (S w'), k'.d]) := hx
      have ht : some k' = some k := ht
      cases ht
      refine t_ix (n := 2) hx2 rfl (fun y2 ty2 => ?_)
      exact hQ y2 H (Same.refl' H) ty2


theorem kw_all (T : Txt w K mg) {fd : FuncData} (F : Fn_kind_within K fd) (hm : mg "kind_within" = some (.ref (He.ga K "kind_within"))) : ∀ n, CalX P w K mg base CX0 (n + 1) "kind_within" (sp_kw n)
  | 0 => calx0 (k := 0) F hm sc_kind_within (b_kind_within F) (fun _ _ _ _ h => sp2_len h) (fun cdv A outer s H vs Q E hr h => by
      obtain ⟨x0, x1, rfl, g, _, _, _, _, _, hn, _⟩ := h
      have := g.dep_pos
      omega)
  | n + 1 => kw_step T F hm n (kw_all T F hm n)
abbrev wTERM : List Nat := [116,101,114,109]
abbrev wLARGE : List Nat := [108,97,114,103,101]
def toldT (r : Gt) : PyData := if r.nodes ≤ 400 then .tuple [.str (S wTERM), (upT r).d] else .tuple [.str (S wLARGE), .int 400, .bool true]
def sp_law_told_instance : Sp := sp2 fun x y H Q _ => ∃ g v : Gt, TD H x (upT g).d ∧ TD H y (upT v).d ∧ g.dep ≤ 130 ∧ g.nodes ≤ 500 ∧ v.nodes ≤ 500 ∧ ∀ u H', Same H H' → TD H' u (toldT (subT (insL v) g 0)) → Q u H'
theorem ok_law_told_instance (T : Txt w K mg) {fd : FuncData} (F : Fn_law_told_instance K fd) (hm : mg "_law_told_instance" = some (.ref (He.ga K "_law_told_instance"))) (c_instantiate : CalX P w K mg base (L2.CX P w) 132 "instantiate" (sp_instantiate K)) : CalX P w K mg base CX0 133 "_law_told_instance" sp_law_told_instance := by
  refine calx0 (k := 132) F hm sc_law_told_instance (b_law_told_instance F) (fun _ _ _ _ h => sp2_len h) (fun cdv A outer s H vs Q E hr h => ?_)
  obtain ⟨x0, x1, rfl, h⟩ := h
  refine ⟨_, (pss_cons (ps_try_manyA rfl rfl takes0 (fun W pn xe tk _ => (pss_one (ps_set (i := 2) sc_law_told_instance.nd rfl (Or.inl rfl) (pe_cxS c_instantiate hr (by decide) rfl (fun σ => passAt tk σ) (by exact (pa_cons (pv 0) (pa_cons (pv 1) pa_nil)))))))
    (HdsA.as_ (i := 3) sc_law_told_instance.nd rfl rfl ⟨rfl, by decide, .inl T.g_TooLarge⟩ (fun a oe cls d pn hz hf => (pss_one (ps_ret (pe_tup (pa_cons pe_str (pa_cons (pe_xf ⟨T.e_TooLarge.hg, T.e_TooLarge.hk, T.e_TooLarge.hs, T.e_TooLarge.hd⟩ T.n_TooLarge hz hf (pv 3)) (pa_cons (pe_callB (call_isEd hz hf) (by rfl) T.f_isinstance (by decide +kernel) (pa_cons (pv 3) (pa_cons (pe_gv T.v_HallError) pa_nil))) pa_nil))))))) HdsA.nil))
    (pss_one (ps_ret (pe_tup (pa_cons pe_str (pa_cons (pv 2) pa_nil)))))), ?_⟩
  rw [show start ["inner", "term", "made", "e"] [x0, x1] = [some x0, some x1, none, none] from rfl]
  have ec0 : Str.ofString "term" = S [116,101,114,109] := S_ofs (by decide +kernel)
  have ec1 : Str.ofString "large" = S [108,97,114,103,101] := S_ofs (by decide +kernel)
  rw [ec0, ec1]
  obtain ⟨g, v, hx, hy, hdp, hng, hnv, hQ⟩ := h
  try dsimp only [cxOf]
  walk_at "v"
  refine ⟨_, _, rfl, g, v, hx, hy, hdp, hng, hnv, fun hbig d H1 s1 hd1 => ?_, fun hsm u H1 s1 t1 => ?_⟩
  · refine ⟨true, T.x_TooLarge_TooLarge, fun _ ea hea => ?_, fun z => by cases z⟩
    dsimp only [endsAs]
    walk_at "v"
    refine w_tupN ?_
    walk_at "v"
    refine ⟨_, rfl, rfl, rfl, d, _, _, rfl, hd1, rfl, ?_⟩
    walk_at "v"
    refine ⟨_, _, true, _, d, _, rfl, rfl, T.e_TooLarge, rfl, hd1, fun u z => z, T.k_TooLarge_HallError, ?_⟩
    walk_at "v"
    refine t_new (ds := [.str (S wLARGE), .int 400, .bool true]) (.cons (.str _) (.cons (.int _) (.cons (.bl _) .nil))) (fun p3 H3 hp3 s3 t3 => ?_)
    exact hQ _ H3 (s1.tr s3) (by unfold toldT; rw [if_neg (by omega)]; exact t3)
  · walk_at "v"
    refine w_tupN ?_
    walk_at "v"
    refine t_new (ds := [.str (S wTERM), (upT (subT (insL v) g 0)).d]) (.cons (.str _) (.cons t1 .nil)) (fun p3 H3 hp3 s3 t3 => ?_)
    exact hQ _ H3 (s1.tr s3) (by unfold toldT; rw [if_pos hsm]; exact t3)
end
end K01

namespace K01
open PySem PySem.Spec PyProof.Rows L2 SX K02
local macro_rules | `(tactic| walk_at "w1") => `(tactic| (first
  | with_reducible refine w_seq ?_ | with_reducible refine w_asgN ?_ | with_reducible refine w_c ?_
  | ((with_reducible refine' w_var ?wv ?_); (case wv => exact rfl))
  | with_reducible refine w_op ?_ | with_reducible refine w_un ?_ | with_reducible refine w_next ?_ | with_reducible refine w_brk ?_ | with_reducible refine w_cnt ?_
  | with_reducible refine w_ifS ?_ | with_reducible refine w_if ?_ | with_reducible refine w_test ?_ | with_reducible refine w_tB ?_ | with_reducible refine w_bl ?_ | with_reducible refine w_blI ?_
  | with_reducible refine w_and ?_ | with_reducible refine w_or ?_ | with_reducible refine w_not ?_ | with_reducible refine w_andV ?_ | with_reducible refine w_orV ?_ | with_reducible refine w_notV ?_
  | with_reducible refine w_nil ?_ | with_reducible refine w_cons ?_ | with_reducible refine w_cb ?_ | with_reducible refine w_call ?_ | with_reducible refine w_callS ?_ | with_reducible refine w_chain ?_
  | with_reducible refine w_tupN ?_ | with_reducible refine w_lstN ?_ | with_reducible refine w_sl ?_ | with_reducible refine w_noPart ?_ | with_reducible refine w_part ?_ | with_reducible refine w_partI ?_
  | with_reducible refine w_ret ?_ | with_reducible refine w_retN ?_ | with_reducible refine w_drop ?_ | with_reducible refine w_asg ?_ | with_reducible refine w_gSub ?_
  | ((with_reducible refine' w_aug ?wv ?_); (case wv => exact rfl)) | with_reducible refine w_ipI ?_
  | with_reducible refine w_addI ?_ | with_reducible refine w_subI ?_ | with_reducible refine w_ltI ?_ | with_reducible refine w_leI ?_ | with_reducible refine w_gtI ?_ | with_reducible refine w_geI ?_
  | with_reducible refine w_eqI ?_ | with_reducible refine w_neI ?_ | with_reducible refine w_eqT ?_ | with_reducible refine w_neT ?_ | with_reducible refine w_inS ?_ | with_reducible refine w_ninS ?_
  | with_reducible refine w_absI ?_ | with_reducible refine w_intI ?_ | with_reducible refine w_maxI ?_ | with_reducible refine w_minI ?_
  | with_reducible refine w_for ?_ | with_reducible refine w_iR1 ?_ | with_reducible refine w_iR2 ?_ | with_reducible refine w_iStr ?_ | with_reducible refine w_strI ?_ | with_reducible refine w_iList ?_ | with_reducible refine w_iTup ?_
  | with_reducible refine w_bm ?_ | with_reducible refine w_bm0 ?_ | with_reducible refine w_t ?_ | with_reducible refine w_f ?_ | with_reducible refine w_nt ?_ | with_reducible refine w_nx ?_ | with_reducible refine w_rt ?_ | with_reducible refine w_bk ?_ | with_reducible refine w_ct ?_ | with_reducible refine w_nf ?_ | with_reducible refine w_lc ?_ | with_reducible refine w_yes ?_ | with_reducible refine w_neg ?_ | with_reducible refine w_intB ?_ | with_reducible refine w_fld ?_ | with_reducible refine w_setf ?_ | with_reducible refine w_faug ?_ | with_reducible refine w_meth ?_ | with_reducible refine w_bmS ?_ | with_reducible refine w_start ?_ | with_reducible refine w_revL ?_ | with_reducible refine w_iR3 ?_))
local macro_rules | `(tactic| walk_at "w") => `(tactic| (repeat (first | walk_at "w1" | dsimp (config := { proj := false }) only [List.set_cons_zero, List.set_cons_succ])))
section
variable {w : World} {K : PySem.W.Frag} {mg : Str → Option Value} {base : Heap}
local macro_rules | `(tactic| walk_at "v1") => `(tactic| (first
  | with_reducible refine w_seq ?_ | with_reducible refine w_asgN ?_ | with_reducible refine w_c ?_
  | ((with_reducible refine' w_var ?wv ?_); (case wv => exact rfl))
  | with_reducible refine w_op ?_ | with_reducible refine w_un ?_ | with_reducible refine w_next ?_ | with_reducible refine w_brk ?_ | with_reducible refine w_cnt ?_
  | with_reducible refine w_ifS ?_ | with_reducible refine w_if ?_ | with_reducible refine w_test ?_ | with_reducible refine w_tB ?_ | with_reducible refine w_bl ?_ | with_reducible refine w_blI ?_
  | with_reducible refine w_and ?_ | with_reducible refine w_or ?_ | with_reducible refine w_not ?_ | with_reducible refine w_andV ?_ | with_reducible refine w_orV ?_ | with_reducible refine w_notV ?_
  | with_reducible refine w_nil ?_ | with_reducible refine w_cons ?_ | with_reducible refine w_cb ?_ | with_reducible refine w_call ?_ | with_reducible refine w_callS ?_ | with_reducible refine w_chain ?_
  | with_reducible refine w_sl ?_ | with_reducible refine w_noPart ?_ | with_reducible refine w_part ?_ | with_reducible refine w_partI ?_
  | with_reducible refine w_ret ?_ | with_reducible refine w_retN ?_ | with_reducible refine w_drop ?_ | with_reducible refine w_asg ?_ | with_reducible refine w_gSub ?_
  | ((with_reducible refine' w_aug ?wv ?_); (case wv => exact rfl)) | with_reducible refine w_ipI ?_
  | with_reducible refine w_addI ?_ | with_reducible refine w_subI ?_ | with_reducible refine w_ltI ?_ | with_reducible refine w_leI ?_ | with_reducible refine w_gtI ?_ | with_reducible refine w_geI ?_
  | with_reducible refine w_eqI ?_ | with_reducible refine w_neI ?_ | with_reducible refine w_eqT ?_ | with_reducible refine w_neT ?_ | with_reducible refine w_inS ?_ | with_reducible refine w_ninS ?_
  | with_reducible refine w_absI ?_ | with_reducible refine w_intI ?_ | with_reducible refine w_maxI ?_ | with_reducible refine w_minI ?_
  | with_reducible refine w_for ?_ | with_reducible refine w_iR1 ?_ | with_reducible refine w_iR2 ?_ | with_reducible refine w_iStr ?_ | with_reducible refine w_strI ?_ | with_reducible refine w_iList ?_ | with_reducible refine w_iTup ?_
  | with_reducible refine w_bm ?_ | with_reducible refine w_bm0 ?_ | with_reducible refine w_t ?_ | with_reducible refine w_f ?_ | with_reducible refine w_nt ?_ | with_reducible refine w_nx ?_ | with_reducible refine w_rt ?_ | with_reducible refine w_bk ?_ | with_reducible refine w_ct ?_ | with_reducible refine w_nf ?_ | with_reducible refine w_lc ?_ | with_reducible refine w_yes ?_ | with_reducible refine w_neg ?_ | with_reducible refine w_intB ?_ | with_reducible refine w_fld ?_ | with_reducible refine w_setf ?_ | with_reducible refine w_faug ?_ | with_reducible refine w_meth ?_ | with_reducible refine w_bmS ?_ | with_reducible refine w_start ?_ | with_reducible refine w_revL ?_ | with_reducible refine w_iR3 ?_))
local macro_rules | `(tactic| walk_at "v") => `(tactic| (repeat (first | walk_at "v1" | dsimp (config := { proj := false }) only [List.set_cons_zero, List.set_cons_succ])))
local macro_rules | `(tactic| walk_at "d") => `(tactic| (repeat (first | exact eva_nil | refine eva_cons ?_ ?_ | exact ev_str | exact ev_int | exact ev_neg | refine ev_tup ?_ | (refine ev_var rfl ?_; assumption))))


theorem tup_d (g : Gt) : ∃ ds, (upT g).d = .tuple ds := by
  cases g with
  | app f a => exact ⟨_, rfl⟩
  | lam k b => exact ⟨_, rfl⟩
  | tip l => cases l <;> exact ⟨_, rfl⟩
theorem shw_tree {r : Gt} (h : r.gok) (z : smB r) (d : r.dep ≤ 130) (n : r.nodes ≤ 700) : Shw (upT r).d := ⟨sz_tree h d, eqv_self r, (tr_short h z).2.1, tr_shown h z n⟩
def sp_law_right : Sp := sp2 fun x y H Q _ => ∃ (p : Addr) (c : List G2) (r : Gt), y = .ref p ∧ DL H p (gd c) ∧ fok c ∧ fo c = [r] ∧ c.length ≤ 50000 ∧ (c.length ≤ 400 → r.gok ∧ smB r ∧ r.dep ≤ 130) ∧ TD H x (toldT r) ∧ ∀ H', Same H H' → Q (.bl true) H'
theorem cokLarge : Cok wLARGE := by show ∀ c ∈ wLARGE, c < 256; decide
theorem sz_large : Sz 180 (.tuple [.str (S wLARGE), .int 400, .bool true]) := ⟨by simp only [PyData.canLay0, PyData.canLayAll0, strOk_S cokLarge, Bool.and_self], by simp [PyData.depth, PyData.depthAll]⟩
theorem ok_law_right (T : Txt w K mg) {fd : FuncData} (F : Fn_law_right K fd) (hm : mg "_law_right" = some (.ref (He.ga K "_law_right"))) (c_law_same : CalG P w K mg base CX0 1 "_law_same" sp_law_same)(c_law_built : CalX P w K mg base CX0 1 "_law_built" sp_law_built) : CalG P w K mg base CX0 2 "_law_right" sp_law_right := by
  refine calg0 (k := 1) F hm sc_law_right (b_law_right F) (fun _ _ _ _ h => sp2_len h) (fun cdv A outer s H vs Q E hr h => ?_)
  obtain ⟨x0, x1, rfl, h⟩ := h
  refine ⟨_, (pss_cons (ps_if (pt_cmpR op_gtI (pe_callB call_lenQ (by rfl) T.f_len PySem.boot_len (pa_cons (pv 1) pa_nil)) pe_int (nomark _))
    (pss_one (ps_ret (pe_cmpR (op_eqN hr.toRoom) (pv 0) (pe_tup (pa_cons pe_str (pa_cons pe_int (pa_cons pe_bl pa_nil)))) (nomark _))))
    pss_nil)
    (pss_one (ps_ret (pe_and (pe_cmpR op_eq (pe_ix ix_tup (pv 0) pe_int (fun _ _ => rfl)) pe_str (nomark _)) (pe_one (pe_cg c_law_same hr (by decide) rfl pass0 (pa_cons (pe_ix ix_tup (pv 0) pe_int (fun _ _ => rfl)) (pa_cons (pe_cx c_law_built hr.toRoom (by decide) rfl pass0 (pa_cons (pv 1) pa_nil)) pa_nil)))))))), ?_⟩
  rw [show start ["told", "code"] [x0, x1] = [some x0, some x1] from rfl]
  have ec0 : Str.ofString "term" = S [116,101,114,109] := S_ofs (by decide +kernel)
  have ec1 : Str.ofString "large" = S [108,97,114,103,101] := S_ofs (by decide +kernel)
  rw [ec0, ec1]
  obtain ⟨p, c, r, rfl, hd, hok, hfo, hz, hsm, ht, hQ⟩ := h
  try dsimp only [cxOf]
  walk_at "v"
  have hno := fo_nodes1 hok hfo
  refine l_len hd ?_
  rw [gd_len]
  walk_at "v"
  refine w_dec (fun hb => ?_) (fun hb => ?_)
  · walk_at "v"
    unfold toldT at ht
    rw [if_neg (by omega)] at ht
    refine ev_go (d := .tuple [.str (S wLARGE), .int 400, .bool true]) (ev_tup (eva_cons ev_str (eva_cons ev_int (eva_cons (fun H Q s k => w_c (k _ _ (Same.refl' H) (.bl true))) eva_nil)))) (fun y1 H1 s1 t1 => ?_)
    refine d_eq (ht.tm (Tm.same s1)) t1 sz_large sz_large ?_
    rw [show PyData.eqv (.tuple [.str (S wLARGE), .int 400, .bool true]) (.tuple [.str (S wLARGE), .int 400, .bool true]) = true by simp [PyData.eqv, PyData.eqvAll]]
    exact hQ H1 s1
  · walk_at "v"
    unfold toldT at ht
    rw [if_pos (by omega)] at ht
    obtain ⟨q1, q2, q3⟩ := hsm (by omega)
    refine t_ixS (n := 0) ht rfl ?_
    walk_at "v"
    rw [show decide (wTERM = [116, 101, 114, 109]) = true from by decide]
    walk_at "v"
    refine t_ix (n := 1) ht rfl (fun y1 ty1 => ?_)
    walk_at "v"
    refine ⟨_, rfl, p, c, r, rfl, hd, hok, hfo, by omega, fun v H1 s1 t1 => ?_⟩
    obtain ⟨ds, ed⟩ := tup_d r
    have ty2 := ty1.tm (Tm.same s1)
    have sw := shw_tree q1 q2 q3 (by omega)
    rw [ed] at ty2 t1 sw
    walk_at "v"
    exact ⟨_, _, rfl, ds, ty2, t1, sw, hQ H1 s1⟩
end
end K01

namespace K01
open PySem PySem.Spec PyProof.Rows L2 SX K02
local macro_rules | `(tactic| walk_at "w1") => `(tactic| (first
  | with_reducible refine w_seq ?_ | with_reducible refine w_asgN ?_ | with_reducible refine w_c ?_
  | ((with_reducible refine' w_var ?wv ?_); (case wv => exact rfl))
  | with_reducible refine w_op ?_ | with_reducible refine w_un ?_ | with_reducible refine w_next ?_ | with_reducible refine w_brk ?_ | with_reducible refine w_cnt ?_
  | with_reducible refine w_ifS ?_ | with_reducible refine w_if ?_ | with_reducible refine w_test ?_ | with_reducible refine w_tB ?_ | with_reducible refine w_bl ?_ | with_reducible refine w_blI ?_
  | with_reducible refine w_and ?_ | with_reducible refine w_or ?_ | with_reducible refine w_not ?_ | with_reducible refine w_andV ?_ | with_reducible refine w_orV ?_ | with_reducible refine w_notV ?_
  | with_reducible refine w_nil ?_ | with_reducible refine w_cons ?_ | with_reducible refine w_cb ?_ | with_reducible refine w_call ?_ | with_reducible refine w_callS ?_ | with_reducible refine w_chain ?_
  | with_reducible refine w_tupN ?_ | with_reducible refine w_lstN ?_ | with_reducible refine w_sl ?_ | with_reducible refine w_noPart ?_ | with_reducible refine w_part ?_ | with_reducible refine w_partI ?_
  | with_reducible refine w_ret ?_ | with_reducible refine w_retN ?_ | with_reducible refine w_drop ?_ | with_reducible refine w_asg ?_ | with_reducible refine w_gSub ?_
  | ((with_reducible refine' w_aug ?wv ?_); (case wv => exact rfl)) | with_reducible refine w_ipI ?_
  | with_reducible refine w_addI ?_ | with_reducible refine w_subI ?_ | with_reducible refine w_ltI ?_ | with_reducible refine w_leI ?_ | with_reducible refine w_gtI ?_ | with_reducible refine w_geI ?_
  | with_reducible refine w_eqI ?_ | with_reducible refine w_neI ?_ | with_reducible refine w_eqT ?_ | with_reducible refine w_neT ?_ | with_reducible refine w_inS ?_ | with_reducible refine w_ninS ?_
  | with_reducible refine w_absI ?_ | with_reducible refine w_intI ?_ | with_reducible refine w_maxI ?_ | with_reducible refine w_minI ?_
  | with_reducible refine w_for ?_ | with_reducible refine w_iR1 ?_ | with_reducible refine w_iR2 ?_ | with_reducible refine w_iStr ?_ | with_reducible refine w_strI ?_ | with_reducible refine w_iList ?_ | with_reducible refine w_iTup ?_
  | with_reducible refine w_bm ?_ | with_reducible refine w_bm0 ?_ | with_reducible refine w_t ?_ | with_reducible refine w_f ?_ | with_reducible refine w_nt ?_ | with_reducible refine w_nx ?_ | with_reducible refine w_rt ?_ | with_reducible refine w_bk ?_ | with_reducible refine w_ct ?_ | with_reducible refine w_nf ?_ | with_reducible refine w_lc ?_ | with_reducible refine w_yes ?_ | with_reducible refine w_neg ?_ | with_reducible refine w_intB ?_ | with_reducible refine w_fld ?_ | with_reducible refine w_setf ?_ | with_reducible refine w_faug ?_ | with_reducible refine w_meth ?_ | with_reducible refine w_bmS ?_ | with_reducible refine w_start ?_ | with_reducible refine w_revL ?_ | with_reducible refine w_iR3 ?_))
local macro_rules | `(tactic| walk_at "w") => `(tactic| (repeat (first | walk_at "w1" | dsimp (config := { proj := false }) only [List.set_cons_zero, List.set_cons_succ])))
section
variable {w : World} {K : PySem.W.Frag} {mg : Str → Option Value} {base : Heap}
local macro_rules | `(tactic| walk_at "v1") => `(tactic| (first
  | with_reducible refine w_seq ?_ | with_reducible refine w_asgN ?_ | with_reducible refine w_c ?_
  | ((with_reducible refine' w_var ?wv ?_); (case wv => exact rfl))
  | with_reducible refine w_op ?_ | with_reducible refine w_un ?_ | with_reducible refine w_next ?_ | with_reducible refine w_brk ?_ | with_reducible refine w_cnt ?_
  | with_reducible refine w_ifS ?_ | with_reducible refine w_if ?_ | with_reducible refine w_test ?_ | with_reducible refine w_tB ?_ | with_reducible refine w_bl ?_ | with_reducible refine w_blI ?_
  | with_reducible refine w_and ?_ | with_reducible refine w_or ?_ | with_reducible refine w_not ?_ | with_reducible refine w_andV ?_ | with_reducible refine w_orV ?_ | with_reducible refine w_notV ?_
  | with_reducible refine w_nil ?_ | with_reducible refine w_cons ?_ | with_reducible refine w_cb ?_ | with_reducible refine w_call ?_ | with_reducible refine w_callS ?_ | with_reducible refine w_chain ?_
  | with_reducible refine w_sl ?_ | with_reducible refine w_noPart ?_ | with_reducible refine w_part ?_ | with_reducible refine w_partI ?_
  | with_reducible refine w_ret ?_ | with_reducible refine w_retN ?_ | with_reducible refine w_drop ?_ | with_reducible refine w_asg ?_ | with_reducible refine w_gSub ?_
  | ((with_reducible refine' w_aug ?wv ?_); (case wv => exact rfl)) | with_reducible refine w_ipI ?_
  | with_reducible refine w_addI ?_ | with_reducible refine w_subI ?_ | with_reducible refine w_ltI ?_ | with_reducible refine w_leI ?_ | with_reducible refine w_gtI ?_ | with_reducible refine w_geI ?_
  | with_reducible refine w_eqI ?_ | with_reducible refine w_neI ?_ | with_reducible refine w_eqT ?_ | with_reducible refine w_neT ?_ | with_reducible refine w_inS ?_ | with_reducible refine w_ninS ?_
  | with_reducible refine w_absI ?_ | with_reducible refine w_intI ?_ | with_reducible refine w_maxI ?_ | with_reducible refine w_minI ?_
  | with_reducible refine w_for ?_ | with_reducible refine w_iR1 ?_ | with_reducible refine w_iR2 ?_ | with_reducible refine w_iStr ?_ | with_reducible refine w_strI ?_ | with_reducible refine w_iList ?_ | with_reducible refine w_iTup ?_
  | with_reducible refine w_bm ?_ | with_reducible refine w_bm0 ?_ | with_reducible refine w_t ?_ | with_reducible refine w_f ?_ | with_reducible refine w_nt ?_ | with_reducible refine w_nx ?_ | with_reducible refine w_rt ?_ | with_reducible refine w_bk ?_ | with_reducible refine w_ct ?_ | with_reducible refine w_nf ?_ | with_reducible refine w_lc ?_ | with_reducible refine w_yes ?_ | with_reducible refine w_neg ?_ | with_reducible refine w_intB ?_ | with_reducible refine w_fld ?_ | with_reducible refine w_setf ?_ | with_reducible refine w_faug ?_ | with_reducible refine w_meth ?_ | with_reducible refine w_bmS ?_ | with_reducible refine w_start ?_ | with_reducible refine w_revL ?_ | with_reducible refine w_iR3 ?_))
local macro_rules | `(tactic| walk_at "v") => `(tactic| (repeat (first | walk_at "v1" | dsimp (config := { proj := false }) only [List.set_cons_zero, List.set_cons_succ])))
local macro_rules | `(tactic| walk_at "d") => `(tactic| (repeat (first | exact eva_nil | refine eva_cons ?_ ?_ | exact ev_str | exact ev_int | exact ev_neg | refine ev_tup ?_ | (refine ev_var rfl ?_; assumption))))


def sp_law_ask_abstract : Sp := sp5 fun x y z u n H Q _ => ∃ (p q : Addr) (c v : List G2) (t tv : Gt) (w nw : List Nat) (k : Kd), x = .ref p ∧ y = .str (S w) ∧ TD H z k.d ∧ u = .ref q ∧ n = .str (S nw) ∧ DL H p (gd c) ∧ DL H q (gd v) ∧ fok c ∧ fo c = [t] ∧ fok v ∧ fo v = [tv] ∧
  (∀ r ∈ c, r.gok) ∧ (∀ r ∈ v, r.gok) ∧ c.length ≤ 400 ∧ v.length ≤ 100 ∧ t.dep + tv.dep ≤ 130 ∧ inScope t 0 = true ∧ inScope tv 0 = true ∧ isName w = true ∧ isName nw = true ∧ GK k ∧ notIn nw t ∧ ∀ H', Same H H' → Q (.bl true) H'
theorem gok_of {c : List G2} {t : Gt} (h : fok c) (e : fo c = [t]) (g : ∀ r ∈ c, r.gok) : t.gok := fo_gok (⟨h, rfl⟩ : Vc c _) g t (by rw [e]; exact List.mem_cons_self)
theorem same_of {H : Hp} {Q : VK} {E : XK} {x y : V} {r : Gt} (hx : TD H x (upT r).d) (hy : TD H y (upT r).d) (s : Shw (upT r).d) (k : Q (.bl true) H) : sp_law_same [x, y] H Q E := by
  obtain ⟨ds, ed⟩ := tup_d r
  rw [ed] at hx hy s
  exact ⟨_, _, rfl, ds, hx, hy, s, k⟩
theorem ok_law_ask_abstract (T : Txt w K mg) {fd : FuncData} (F : Fn_law_ask_abstract K fd) (hm : mg "_law_ask_abstract" = some (.ref (He.ga K "_law_ask_abstract"))) (c_law_built : CalX P w K mg base CX0 1 "_law_built" sp_law_built)(c_law_abstracted : CalX P w K mg base CX0 2 "_law_abstracted" sp_law_abstracted)(c_abstract : CalX P w K mg base CX0 132 "abstract" sp_abstract)(c_lam : CalX P w K mg base CX0 133 "lam" sp_lam)(c_law_same : CalG P w K mg base CX0 1 "_law_same" sp_law_same)(c_law_right : CalG P w K mg base CX0 2 "_law_right" sp_law_right)(c_law_told_instance : CalX P w K mg base CX0 133 "_law_told_instance" sp_law_told_instance)(c_law_instantiated : CalX P w K mg base CX0 2 "_law_instantiated" sp_law_instantiated) : CalG P w K mg base CX0 134 "_law_ask_abstract" sp_law_ask_abstract := by
  refine calg0 (k := 133) F hm sc_law_ask_abstract (b_law_ask_abstract F) (fun _ _ _ _ h => sp5_len h) (fun cdv A outer s H vs Q E hr h => ?_)
  obtain ⟨x0, x1, x2, x3, x4, rfl, h⟩ := h
  refine ⟨_, (pss_cons (ps_set (i := 5) sc_law_ask_abstract.nd rfl (Or.inl rfl) (pe_cx c_law_built hr.toRoom (by decide) rfl pass0 (pa_cons (pv 0) pa_nil)))
    (pss_cons (ps_set (i := 6) sc_law_ask_abstract.nd rfl (Or.inl rfl) (pe_cx c_law_abstracted hr.toRoom (by decide) rfl pass0 (pa_cons (pv 0) (pa_cons (pv 1) (pa_cons (pv 2) pa_nil)))))
    (pss_cons (ps_set (i := 7) sc_law_ask_abstract.nd rfl (Or.inl rfl) (pe_cx c_law_built hr.toRoom (by decide) rfl pass0 (pa_cons (pv 6) pa_nil)))
    (pss_cons (ps_if (pt_not (pt_val (pe_cg c_law_same hr (by decide) rfl pass0 (pa_cons (pe_cx c_abstract hr.toRoom (by decide) rfl pass0 (pa_cons (pv 5) (pa_cons (pv 1) (pa_cons (pv 2) pa_nil)))) (pa_cons (pv 7) pa_nil)))))
    (pss_one (ps_ret pe_bl))
    pss_nil)
    (pss_cons (ps_if (pt_not (pt_val (pe_cg c_law_same hr (by decide) rfl pass0 (pa_cons (pe_cx c_lam hr.toRoom (by decide) rfl pass0 (pa_cons (pv 1) (pa_cons (pv 2) (pa_cons (pv 5) pa_nil)))) (pa_cons (pe_tup (pa_cons pe_str (pa_cons (pv 2) (pa_cons (pv 7) pa_nil)))) pa_nil)))))
    (pss_one (ps_ret pe_bl))
    pss_nil)
    (pss_cons (ps_if (pt_not (pt_val (pe_cg c_law_right hr (by decide) rfl pass0 (pa_cons (pe_cx c_law_told_instance hr.toRoom (by decide) rfl pass0 (pa_cons (pv 7) (pa_cons (pe_tup (pa_cons pe_str (pa_cons (pv 1) (pa_cons (pv 2) pa_nil)))) pa_nil))) (pa_cons (pv 0) pa_nil)))))
    (pss_one (ps_ret pe_bl))
    pss_nil)
    (pss_cons (ps_if (pt_not (pt_val (pe_cg c_law_right hr (by decide) rfl pass0 (pa_cons (pe_cx c_law_told_instance hr.toRoom (by decide) rfl pass0 (pa_cons (pv 7) (pa_cons (pe_cx c_law_built hr.toRoom (by decide) rfl pass0 (pa_cons (pv 3) pa_nil)) pa_nil))) (pa_cons (pe_cx c_law_instantiated hr.toRoom (by decide) rfl pass0 (pa_cons (pv 6) (pa_cons (pv 3) pa_nil))) pa_nil)))))
    (pss_one (ps_ret pe_bl))
    pss_nil)
    (pss_cons (ps_set (i := 8) sc_law_ask_abstract.nd rfl (Or.inl rfl) (pe_cx c_law_built hr.toRoom (by decide) rfl pass0 (pa_cons (pe_cx c_law_instantiated hr.toRoom (by decide) rfl pass0 (pa_cons (pv 6) (pa_cons (pe_lst (pa_cons (pe_tup (pa_cons pe_str (pa_cons (pv 4) (pa_cons (pv 2) pa_nil)))) pa_nil)) pa_nil))) pa_nil)))
    (pss_one (ps_ret (pe_cg c_law_same hr (by decide) rfl pass0 (pa_cons (pe_cx c_abstract hr.toRoom (by decide) rfl pass0 (pa_cons (pv 8) (pa_cons (pv 4) (pa_cons (pv 2) pa_nil)))) (pa_cons (pv 7) pa_nil))))))))))))), ?_⟩
  rw [show start ["code", "word", "kind", "filler", "new", "term", "flat", "inner", "opened"] [x0, x1, x2, x3, x4] = [some x0, some x1, some x2, some x3, some x4, none, none, none, none] from rfl]
  have ec0 : Str.ofString "lam" = S [108,97,109] := S_ofs (by decide +kernel)
  have ec1 : Str.ofString "var" = S [118,97,114] := S_ofs (by decide +kernel)
  rw [ec0, ec1]
  obtain ⟨p, q, c, v, t, tv, w, nw, k, rfl, rfl, hk, rfl, rfl, hd, hdv, hok, hfo, hokv, hfov, hg, hgv, hz, hzv, hdp, hsc, hscv, hw, hnw, hgk, hni, hQ⟩ := h
  try dsimp only [cxOf]
  walk_at "v"
  have gt := gok_of hok hfo hg
  have gv := gok_of hokv hfov hgv
  have hnt := fo_nodes1 hok hfo
  have hnv := fo_nodes1 hokv hfov
  have dp1 := t.dep_pos
  have dp2 := tv.dep_pos
  obtain ⟨f1, f2⟩ := fo_sub1 (absC_ok w k) hok hfo
  obtain ⟨fl, hfl⟩ : ∃ fl, fl = subC (absC w k) c [0] := ⟨_, rfl⟩
  obtain ⟨t1, ht1⟩ : ∃ t1, t1 = subT (absL w k) t 0 := ⟨_, rfl⟩
  rw [← hfl, ← ht1] at f2
  rw [← hfl] at f1
  have gfl : ∀ r ∈ fl, r.gok := by rw [hfl]; exact gok_subC (fun l x h => absC_gok h) hg
  have gt1 : t1.gok := gok_of f1 f2 gfl
  have lfl : fl.length = c.length := by rw [hfl]; exact one_subC (fun l x => absC_len) c [0]
  have nt1 := fo_nodes1 f1 f2
  have sm0 : smB t := smB_scope t 0 hsc (by omega)
  have smv : smB tv := smB_scope tv 0 hscv (by omega)
  have sm1 : smB t1 := by rw [ht1]; exact smB_sub 999 (fun l x hl hx => absL_sm (by omega) hx) t 0 sm0 (by omega)
  have d1 : t1.dep ≤ t.dep := by rw [ht1]; exact dep_sub (D := 0) (fun l x => absL_dep) t 0
  have sw1 := shw_tree gt1 sm1 (by omega) (by omega)
  refine ⟨_, rfl, p, c, t, rfl, hd, hok, hfo, by omega, fun xt H1 s1 tt => ?_⟩
  walk_at "v"
  refine ⟨_, _, _, rfl, p, c, w, k, rfl, rfl, hd.same s1, hk.tm (Tm.same s1), hok, by rw [hfo]; rfl, by omega, hg, hw, hgk, fun fp H2 h2 s2 df => ?_⟩
  rw [← hfl] at df
  walk_at "v"
  refine ⟨_, rfl, fp, fl, t1, rfl, df, f1, f2, by omega, fun xi H3 s3 ti => ?_⟩
  have s03 := (s1.tr s2).tr s3
  have tt3 := tt.tm (Tm.same (s2.tr s3))
  walk_at "v"
  refine ⟨_, _, _, rfl, t, w, k, tt3, rfl, hk.tm (Tm.same s03), gt, by omega, hw, hgk, fun v4 H4 s4 t4 => ?_⟩
  rw [← ht1] at t4
  have ti4 := ti.tm (Tm.same s4)
  have s04 := s03.tr s4
  walk_at "v"
  refine same_of t4 ti4 sw1 ?_
  walk_at "v"
  refine ⟨_, _, _, rfl, t, w, k, rfl, hk.tm (Tm.same s04), tt3.tm (Tm.same s4), gt, by omega, hw, hgk, fun v5 H5 s5 t5 => ?_⟩
  rw [← ht1] at t5
  have ti5 := ti4.tm (Tm.same s5)
  have s05 := s04.tr s5
  have hk5 := hk.tm (Tm.same s05)
  refine ev_go (d := .tuple [.str (S wLAM), k.d, (upT t1).d]) (ev_tup (eva_cons ev_str (eva_cons (ev_var rfl hk5) (eva_cons (ev_var rfl ti5) eva_nil)))) (fun v6 H6 s6 t6 => ?_)
  walk_at "v"
  have t5 : TD H5 v5 (upT (.lam k t1)).d := t5
  have t6 : TD H6 v6 (upT (.lam k t1)).d := t6
  refine same_of (r := .lam k t1) (t5.tm (Tm.same s6)) t6 (shw_tree ⟨hgk, gt1⟩ sm1 (by show t1.dep + 1 ≤ 130; omega) (by show t1.nodes + 1 ≤ 700; omega)) ?_
  have s06 := s05.tr s6
  have ti6 := ti5.tm (Tm.same s6)
  have hk6 := hk5.tm (Tm.same s6)
  walk_at "v"
  refine ev_go (d := (Lf.var w k).d) (ev_tup (eva_cons ev_str (eva_cons (ev_var rfl (.str _)) (eva_cons (ev_var rfl hk6) eva_nil)))) (fun v7 H7 s7 t7 => ?_)
  walk_at "v"
  have t7 : TD H7 v7 (upT (.tip (.var w k))).d := t7
  refine ⟨_, _, rfl, t1, .tip (.var w k), ti6.tm (Tm.same s7), t7, by omega, by omega, by show 1 ≤ 500; omega, fun u8 H8 s8 t8 => ?_⟩
  rw [show subT (insL (.tip (.var w k))) t1 0 = t by rw [ht1]; exact ins_abs w k t 0 hsc] at t8
  have s08 := (s06.tr s7).tr s8
  walk_at "v"
  refine ⟨_, _, rfl, p, c, t, rfl, hd.same s08, hok, hfo, by omega, fun _ => ⟨gt, sm0, by omega⟩, t8, fun H9 s9 => ?_⟩
  have s09 := s08.tr s9
  have ti9 := ti6.tm (Tm.same ((s7.tr s8).tr s9))
  walk_at "v"
  refine ⟨_, rfl, q, v, tv, rfl, hdv.same s09, hokv, hfov, by omega, fun xv H10 s10 tv10 => ?_⟩
  walk_at "v"
  refine ⟨_, _, rfl, t1, tv, ti9.tm (Tm.same s10), tv10, by omega, by omega, by omega, fun u11 H11 s11 t11 => ?_⟩
  have s0b := (s09.tr s10).tr s11
  have df11 := (df.same s3).same ((((((((s4.tr s5).tr s6).tr s7).tr s8).tr s9).tr s10).tr s11))
  walk_at "v"
  refine ⟨_, _, rfl, fp, q, fl, v, rfl, rfl, df11, hdv.same s0b, f1, by rw [f2]; rfl, by omega, by omega, gfl, fun ip H12 h12 s12 dip => ?_⟩
  obtain ⟨g1, g2⟩ := fo_sub1 (insC_ok hokv hfov) f1 f2
  obtain ⟨r2, hr2⟩ : ∃ r2, r2 = subT (insL tv) t1 0 := ⟨_, rfl⟩
  rw [← hr2] at g2 t11
  have lin : (subC (insC v) fl [0]).length ≤ fl.length * 100 := len_subC (by omega) (fun l x => insC_len (by omega) hzv) fl [0]
  have gr2 : r2.gok := by rw [hr2]; exact gok_sub (fun l x h => insL_gok gv h) t1 0 gt1
  have sr2 : smB r2 := by rw [hr2]; exact smB_sub 999 (fun l x hl hx => insL_sm smv hx) t1 0 sm1 (by omega)
  have dr2 : r2.dep ≤ t1.dep + (tv.dep - 1) := by rw [hr2]; exact dep_sub (fun l x => insL_dep) t1 0
  walk_at "v"
  refine ⟨_, _, rfl, ip, _, r2, rfl, dip, g1, g2, by omega, fun _ => ⟨gr2, sr2, by omega⟩, t11.tm (Tm.same s12), fun H13 s13 => ?_⟩
  have s0d := (s0b.tr s12).tr s13
  have df13 := (df11.same s12).same s13
  have hk13 := hk.tm (Tm.same s0d)
  have ti13 := ti9.tm (Tm.same (((s10.tr s11).tr s12).tr s13))
  walk_at "v"
  refine ev_lst (ds := gd [.tip (.var nw k)]) (eva_cons (ev_tup (eva_cons ev_str (eva_cons (ev_var rfl (.str _)) (eva_cons (ev_var rfl hk13) eva_nil)))) eva_nil) (fun l14 H14 h14 s14 d14 => ?_)
  walk_at "v"
  have hone : fok ([.tip (.var nw k)] : List G2) ∧ fo ([.tip (.var nw k)] : List G2) = [.tip (.var nw k)] := one_tip _
  refine ⟨_, _, rfl, fp, l14, fl, [.tip (.var nw k)], rfl, rfl, df13.same s14, d14, f1, by rw [f2]; rfl, by omega, by show 1 ≤ 200; omega, gfl, fun op H15 h15 s15 dop => ?_⟩
  obtain ⟨e1, e2⟩ := fo_sub1 (insC_ok hone.1 hone.2) f1 f2
  have lop : (subC (insC [.tip (.var nw k)]) fl [0]).length ≤ fl.length * 1 := len_subC (Nat.le_refl _) (fun l x => insC_len (Nat.le_refl _) (Nat.le_refl _)) fl [0]
  walk_at "v"
  refine ⟨_, rfl, op, _, _, rfl, dop, e1, e2, by omega, fun xo H16 s16 to => ?_⟩
  have s0g := ((s0d.tr s14).tr s15).tr s16
  walk_at "v"
  have go : (subT (insL (.tip (.var nw k))) t1 0).gok := gok_sub (fun l x h => insL_gok (v := .tip (.var nw k)) ⟨hnw, hgk⟩ h) t1 0 gt1
  have do_ : (subT (insL (.tip (.var nw k))) t1 0).dep ≤ t1.dep + 0 := dep_sub (fun l x => insL_dep (v := .tip (.var nw k))) t1 0
  refine ⟨_, _, _, rfl, _, nw, k, to, rfl, hk.tm (Tm.same s0g), go, by omega, hnw, hgk, fun v17 H17 s17 t17 => ?_⟩
  rw [show subT (absL nw k) (subT (insL (.tip (.var nw k))) t1 0) 0 = t1 by rw [ht1]; exact abs_ins w nw k t 0 hsc hni] at t17
  walk_at "v"
  exact same_of t17 (ti13.tm (Tm.same (((s14.tr s15).tr s16).tr s17))) sw1 (hQ H17 (s0g.tr s17))
end
end K01

namespace K01
open PySem PySem.Spec PyProof.Rows L2 SX K02
local macro_rules | `(tactic| walk_at "w1") => `(tactic| (first
  | with_reducible refine w_seq ?_ | with_reducible refine w_asgN ?_ | with_reducible refine w_c ?_
  | ((with_reducible refine' w_var ?wv ?_); (case wv => exact rfl))
  | with_reducible refine w_op ?_ | with_reducible refine w_un ?_ | with_reducible refine w_next ?_ | with_reducible refine w_brk ?_ | with_reducible refine w_cnt ?_
  | with_reducible refine w_ifS ?_ | with_reducible refine w_if ?_ | with_reducible refine w_test ?_ | with_reducible refine w_tB ?_ | with_reducible refine w_bl ?_ | with_reducible refine w_blI ?_
  | with_reducible refine w_and ?_ | with_reducible refine w_or ?_ | with_reducible refine w_not ?_ | with_reducible refine w_andV ?_ | with_reducible refine w_orV ?_ | with_reducible refine w_notV ?_
  | with_reducible refine w_nil ?_ | with_reducible refine w_cons ?_ | with_reducible refine w_cb ?_ | with_reducible refine w_call ?_ | with_reducible refine w_callS ?_ | with_reducible refine w_chain ?_
  | with_reducible refine w_tupN ?_ | with_reducible refine w_lstN ?_ | with_reducible refine w_sl ?_ | with_reducible refine w_noPart ?_ | with_reducible refine w_part ?_ | with_reducible refine w_partI ?_
  | with_reducible refine w_ret ?_ | with_reducible refine w_retN ?_ | with_reducible refine w_drop ?_ | with_reducible refine w_asg ?_ | with_reducible refine w_gSub ?_
  | ((with_reducible refine' w_aug ?wv ?_); (case wv => exact rfl)) | with_reducible refine w_ipI ?_
  | with_reducible refine w_addI ?_ | with_reducible refine w_subI ?_ | with_reducible refine w_ltI ?_ | with_reducible refine w_leI ?_ | with_reducible refine w_gtI ?_ | with_reducible refine w_geI ?_
  | with_reducible refine w_eqI ?_ | with_reducible refine w_neI ?_ | with_reducible refine w_eqT ?_ | with_reducible refine w_neT ?_ | with_reducible refine w_inS ?_ | with_reducible refine w_ninS ?_
  | with_reducible refine w_absI ?_ | with_reducible refine w_intI ?_ | with_reducible refine w_maxI ?_ | with_reducible refine w_minI ?_
  | with_reducible refine w_for ?_ | with_reducible refine w_iR1 ?_ | with_reducible refine w_iR2 ?_ | with_reducible refine w_iStr ?_ | with_reducible refine w_strI ?_ | with_reducible refine w_iList ?_ | with_reducible refine w_iTup ?_
  | with_reducible refine w_bm ?_ | with_reducible refine w_bm0 ?_ | with_reducible refine w_t ?_ | with_reducible refine w_f ?_ | with_reducible refine w_nt ?_ | with_reducible refine w_nx ?_ | with_reducible refine w_rt ?_ | with_reducible refine w_bk ?_ | with_reducible refine w_ct ?_ | with_reducible refine w_nf ?_ | with_reducible refine w_lc ?_ | with_reducible refine w_yes ?_ | with_reducible refine w_neg ?_ | with_reducible refine w_intB ?_ | with_reducible refine w_fld ?_ | with_reducible refine w_setf ?_ | with_reducible refine w_faug ?_ | with_reducible refine w_meth ?_ | with_reducible refine w_bmS ?_ | with_reducible refine w_start ?_ | with_reducible refine w_revL ?_ | with_reducible refine w_iR3 ?_))
local macro_rules | `(tactic| walk_at "w") => `(tactic| (repeat (first | walk_at "w1" | dsimp (config := { proj := false }) only [List.set_cons_zero, List.set_cons_succ])))
section
variable {w : World} {K : PySem.W.Frag} {mg : Str → Option Value} {base : Heap}
local macro_rules | `(tactic| walk_at "v1") => `(tactic| (first
  | with_reducible refine w_seq ?_ | with_reducible refine w_asgN ?_ | with_reducible refine w_c ?_
  | ((with_reducible refine' w_var ?wv ?_); (case wv => exact rfl))
  | with_reducible refine w_op ?_ | with_reducible refine w_un ?_ | with_reducible refine w_next ?_ | with_reducible refine w_brk ?_ | with_reducible refine w_cnt ?_
  | with_reducible refine w_ifS ?_ | with_reducible refine w_if ?_ | with_reducible refine w_test ?_ | with_reducible refine w_tB ?_ | with_reducible refine w_bl ?_ | with_reducible refine w_blI ?_
  | with_reducible refine w_and ?_ | with_reducible refine w_or ?_ | with_reducible refine w_not ?_ | with_reducible refine w_andV ?_ | with_reducible refine w_orV ?_ | with_reducible refine w_notV ?_
  | with_reducible refine w_nil ?_ | with_reducible refine w_cons ?_ | with_reducible refine w_cb ?_ | with_reducible refine w_call ?_ | with_reducible refine w_callS ?_ | with_reducible refine w_chain ?_
  | with_reducible refine w_sl ?_ | with_reducible refine w_noPart ?_ | with_reducible refine w_part ?_ | with_reducible refine w_partI ?_
  | with_reducible refine w_ret ?_ | with_reducible refine w_retN ?_ | with_reducible refine w_drop ?_ | with_reducible refine w_asg ?_ | with_reducible refine w_gSub ?_
  | ((with_reducible refine' w_aug ?wv ?_); (case wv => exact rfl)) | with_reducible refine w_ipI ?_
  | with_reducible refine w_addI ?_ | with_reducible refine w_subI ?_ | with_reducible refine w_ltI ?_ | with_reducible refine w_leI ?_ | with_reducible refine w_gtI ?_ | with_reducible refine w_geI ?_
  | with_reducible refine w_eqI ?_ | with_reducible refine w_neI ?_ | with_reducible refine w_eqT ?_ | with_reducible refine w_neT ?_ | with_reducible refine w_inS ?_ | with_reducible refine w_ninS ?_
  | with_reducible refine w_absI ?_ | with_reducible refine w_intI ?_ | with_reducible refine w_maxI ?_ | with_reducible refine w_minI ?_
  | with_reducible refine w_for ?_ | with_reducible refine w_iR1 ?_ | with_reducible refine w_iR2 ?_ | with_reducible refine w_iStr ?_ | with_reducible refine w_strI ?_ | with_reducible refine w_iList ?_ | with_reducible refine w_iTup ?_
  | with_reducible refine w_bm ?_ | with_reducible refine w_bm0 ?_ | with_reducible refine w_t ?_ | with_reducible refine w_f ?_ | with_reducible refine w_nt ?_ | with_reducible refine w_nx ?_ | with_reducible refine w_rt ?_ | with_reducible refine w_bk ?_ | with_reducible refine w_ct ?_ | with_reducible refine w_nf ?_ | with_reducible refine w_lc ?_ | with_reducible refine w_yes ?_ | with_reducible refine w_neg ?_ | with_reducible refine w_intB ?_ | with_reducible refine w_fld ?_ | with_reducible refine w_setf ?_ | with_reducible refine w_faug ?_ | with_reducible refine w_meth ?_ | with_reducible refine w_bmS ?_ | with_reducible refine w_start ?_ | with_reducible refine w_revL ?_ | with_reducible refine w_iR3 ?_))
local macro_rules | `(tactic| walk_at "v") => `(tactic| (repeat (first | walk_at "v1" | dsimp (config := { proj := false }) only [List.set_cons_zero, List.set_cons_succ])))
local macro_rules | `(tactic| walk_at "d") => `(tactic| (repeat (first | exact eva_nil | refine eva_cons ?_ ?_ | exact ev_str | exact ev_int | exact ev_neg | refine ev_tup ?_ | (refine ev_var rfl ?_; assumption))))


def zW (n : Nat) : List Nat := [122, 48 + n]
theorem zW_name {n : Nat} (h : n ≤ 4) : isName (zW n) = true := by
  match n, h with
  | 0, _ => decide
  | 1, _ => decide
  | 2, _ => decide
  | 3, _ => decide
  | 4, _ => decide
theorem ts_nat {n : Nat} (h : n ≤ 5) : Str.ofString (toString (n : Int)) = S [48 + n] := by
  match n, h with
  | 0, _ => decide +kernel
  | 1, _ => decide +kernel
  | 2, _ => decide +kernel
  | 3, _ => decide +kernel
  | 4, _ => decide +kernel
  | 5, _ => decide +kernel
theorem zW_all {a b c d : List Nat} (h : ∀ m, m < 5 → zW m ∈ [a, b, c, d]) : False := by
  have inj : ∀ {i j : Nat} {l : List Nat}, zW i = l → zW j = l → i = j := fun {i j l} e1 e2 => by
    have : zW i = zW j := e1.trans e2.symm
    unfold zW at this
    have := (List.cons.inj (List.cons.inj this).2).1
    omega
  have pick : ∀ m, m < 5 → ∃ j : Nat, j < 4 ∧ zW m = [a, b, c, d].getD j [] := fun m hm => by
    have := h m hm
    simp only [List.mem_cons, List.not_mem_nil, or_false] at this
    rcases this with e | e | e | e
    · exact ⟨0, by omega, e⟩
    · exact ⟨1, by omega, e⟩
    · exact ⟨2, by omega, e⟩
    · exact ⟨3, by omega, e⟩
  obtain ⟨j0, l0, e0⟩ := pick 0 (by omega)
  obtain ⟨j1, l1, e1⟩ := pick 1 (by omega)
  obtain ⟨j2, l2, e2⟩ := pick 2 (by omega)
  obtain ⟨j3, l3, e3⟩ := pick 3 (by omega)
  obtain ⟨j4, l4, e4⟩ := pick 4 (by omega)
  have ne : ∀ {i j k l : Nat}, i ≠ j → zW i = [a, b, c, d].getD k [] → zW j = [a, b, c, d].getD l [] → k ≠ l := fun n x y z => by
    subst z; exact n (inj x y)
  have n01 := ne (by decide) e0 e1
  have n02 := ne (by decide) e0 e2
  have n03 := ne (by decide) e0 e3
  have n04 := ne (by decide) e0 e4
  have n12 := ne (by decide) e1 e2
  have n13 := ne (by decide) e1 e3
  have n14 := ne (by decide) e1 e4
  have n23 := ne (by decide) e2 e3
  have n24 := ne (by decide) e2 e4
  have n34 := ne (by decide) e3 e4
  omega
theorem tds_strs : ∀ {H : Hp} {xs : List V} {ws : List (List Nat)}, TDs H xs (ws.map fun w => PyData.str (S w)) → xs = ws.map fun w => V.str (S w)
  | H, xs, [], h => h.nil_
  | H, xs, w :: ws, h => by
    obtain ⟨x, ys, rfl, a, b⟩ := h.cons_
    rw [a.txt, tds_strs b]; rfl
def sp_law_new : Sp := sp1 fun x H Q _ => ∃ (p : Addr) (ws : List (List Nat)), x = .ref p ∧ DL H p (ws.map fun w => PyData.str (S w)) ∧ ws.length = 4 ∧ ∀ nw, isName nw = true → nw ∉ ws → Q (.str (S nw)) H
theorem ok_law_new (T : Txt w K mg) {fd : FuncData} (F : Fn_law_new K fd) (hm : mg "_law_new" = some (.ref (He.ga K "_law_new")))  : CalX P w K mg base CX0 1 "_law_new" sp_law_new := by
  refine calx0 (k := 0) F hm sc_law_new (b_law_new F) (fun _ _ _ _ h => sp1_len h) (fun cdv A outer s H vs Q E hr h => ?_)
  obtain ⟨x0, rfl, h⟩ := h
  refine ⟨_, (pss_cons (ps_set (i := 1) sc_law_new.nd rfl (Or.inl rfl) pe_int)
    (pss_cons (ps_for PassesOwn.never rfl (pi_range1 (by rfl) T.f_range (pa_cons pe_int pa_nil)) (pg_name (i := 2) sc_law_new.nd rfl (Or.inl rfl))
    (pss_one (ps_if (pt_cmpR op_in_seq (pe_op op_catS pe_str (pe_callTy call_str_int (by rfl) T.f_str (by decide +kernel) (pa_cons (pv 1) pa_nil))) (pv 0) rfl)
    (pss_one (ps_set (i := 1) sc_law_new.nd rfl (Or.inl rfl) (pe_op op_addI (pv 1) pe_int)))
    pss_nil)))
    (pss_one (ps_ret (pe_op op_catS pe_str (pe_callTy call_str_int (by rfl) T.f_str (by decide +kernel) (pa_cons (pv 1) pa_nil))))))), ?_⟩
  rw [show start ["words", "number", "k"] [x0] = [some x0, none, none] from rfl]
  have ec0 : Str.ofString "z" = S [122] := S_ofs (by decide +kernel)
  rw [ec0]
  obtain ⟨p, ws, rfl, ⟨xs, ep, tp⟩, hl, hQ⟩ := h
  try dsimp only [cxOf]
  walk_at "v"
  have exs := tds_strs tp
  refine w_rg1 (by omega) (by omega) ?_
  have lg : ∀ n : Nat, n ≤ 5 → ((n : Int)).natAbs.log2 < 1920 := fun n hn => by
    rw [Int.natAbs_natCast]
    match n, hn with
    | 0, _ => decide
    | 1, _ => decide
    | 2, _ => decide
    | 3, _ => decide
    | 4, _ => decide
    | 5, _ => decide
  refine for_range (fun i σ H' => H' = H ∧ ∃ (n : Nat) (v2 : Option V), σ = [some (.ref p), some (.int (n : Int)), v2] ∧ n ≤ i ∧ (∀ m, m < n → zW m ∈ ws) ∧ (n < i → zW n ∉ ws))
    ⟨rfl, 0, _, rfl, Nat.le_refl _, fun m hm => absurd hm (Nat.not_lt_zero _), fun h => absurd h (Nat.lt_irrefl _)⟩ ?_ ?_
  · rintro i σ G hi ⟨rfl, n, v2, rfl, hni, h1, h2⟩
    have hi : i < 5 := hi
    dsimp only [gName]
    walk_at "v"
    refine ⟨_, rfl, lg n (by omega), ?_⟩
    rw [ts_nat (by omega)]
    walk_at "v"
    refine w_catT (szl (show [122].length + [48 + n].length ≤ 100 by show 1 + 1 ≤ 100; omega)) ?_
    walk_at "v"
    refine w_inLst (SqL.of ep) exs ?_
    rw [show ([122] ++ [48 + n] : List Nat) = zW n from rfl]
    walk_at "v"
    refine w_dec (fun hm => ?_) (fun hm => ?_)
    · walk_at "v"
      refine ⟨rfl, n + 1, _, by rw [show ((n : Int) + 1) = ((n + 1 : Nat) : Int) by omega], by omega, fun m hm' => ?_, fun hlt => ?_⟩
      · by_cases z : m = n
        · subst z; exact hm
        · exact h1 m (by omega)
      · exact absurd hm (h2 (by omega))
    · exact ⟨rfl, n, _, rfl, by omega, h1, fun _ => hm⟩
  · rintro σ G ⟨rfl, n, v2, rfl, hni, h1, h2⟩
    have hni : n ≤ 5 := hni
    have h2 : n < 5 → zW n ∉ ws := h2
    have hn4 : n < 5 := by
      by_cases z : n < 5
      · exact z
      · exfalso
        match ws, hl, h1 with
        | [a, b, c, d], _, h1 => exact zW_all fun m hm => h1 m (by omega)
    walk_at "v"
    refine ⟨_, rfl, lg n (by omega), ?_⟩
    rw [ts_nat (by omega)]
    walk_at "v"
    refine w_catT (szl (show [122].length + [48 + n].length ≤ 100 by show 1 + 1 ≤ 100; omega)) ?_
    rw [show ([122] ++ [48 + n] : List Nat) = zW n from rfl]
    exact hQ _ (zW_name (by omega)) (h2 hn4)
end
end K01

namespace K01
open PySem PySem.Spec PyProof.Rows L2 SX K02
local macro_rules | `(tactic| walk_at "w1") => `(tactic| (first
  | with_reducible refine w_seq ?_ | with_reducible refine w_asgN ?_ | with_reducible refine w_c ?_
  | ((with_reducible refine' w_var ?wv ?_); (case wv => exact rfl))
  | with_reducible refine w_op ?_ | with_reducible refine w_un ?_ | with_reducible refine w_next ?_ | with_reducible refine w_brk ?_ | with_reducible refine w_cnt ?_
  | with_reducible refine w_ifS ?_ | with_reducible refine w_if ?_ | with_reducible refine w_test ?_ | with_reducible refine w_tB ?_ | with_reducible refine w_bl ?_ | with_reducible refine w_blI ?_
  | with_reducible refine w_and ?_ | with_reducible refine w_or ?_ | with_reducible refine w_not ?_ | with_reducible refine w_andV ?_ | with_reducible refine w_orV ?_ | with_reducible refine w_notV ?_
  | with_reducible refine w_nil ?_ | with_reducible refine w_cons ?_ | with_reducible refine w_cb ?_ | with_reducible refine w_call ?_ | with_reducible refine w_callS ?_ | with_reducible refine w_chain ?_
  | with_reducible refine w_tupN ?_ | with_reducible refine w_lstN ?_ | with_reducible refine w_sl ?_ | with_reducible refine w_noPart ?_ | with_reducible refine w_part ?_ | with_reducible refine w_partI ?_
  | with_reducible refine w_ret ?_ | with_reducible refine w_retN ?_ | with_reducible refine w_drop ?_ | with_reducible refine w_asg ?_ | with_reducible refine w_gSub ?_
  | ((with_reducible refine' w_aug ?wv ?_); (case wv => exact rfl)) | with_reducible refine w_ipI ?_
  | with_reducible refine w_addI ?_ | with_reducible refine w_subI ?_ | with_reducible refine w_ltI ?_ | with_reducible refine w_leI ?_ | with_reducible refine w_gtI ?_ | with_reducible refine w_geI ?_
  | with_reducible refine w_eqI ?_ | with_reducible refine w_neI ?_ | with_reducible refine w_eqT ?_ | with_reducible refine w_neT ?_ | with_reducible refine w_inS ?_ | with_reducible refine w_ninS ?_
  | with_reducible refine w_absI ?_ | with_reducible refine w_intI ?_ | with_reducible refine w_maxI ?_ | with_reducible refine w_minI ?_
  | with_reducible refine w_for ?_ | with_reducible refine w_iR1 ?_ | with_reducible refine w_iR2 ?_ | with_reducible refine w_iStr ?_ | with_reducible refine w_strI ?_ | with_reducible refine w_iList ?_ | with_reducible refine w_iTup ?_
  | with_reducible refine w_bm ?_ | with_reducible refine w_bm0 ?_ | with_reducible refine w_t ?_ | with_reducible refine w_f ?_ | with_reducible refine w_nt ?_ | with_reducible refine w_nx ?_ | with_reducible refine w_rt ?_ | with_reducible refine w_bk ?_ | with_reducible refine w_ct ?_ | with_reducible refine w_nf ?_ | with_reducible refine w_lc ?_ | with_reducible refine w_yes ?_ | with_reducible refine w_neg ?_ | with_reducible refine w_intB ?_ | with_reducible refine w_fld ?_ | with_reducible refine w_setf ?_ | with_reducible refine w_faug ?_ | with_reducible refine w_meth ?_ | with_reducible refine w_bmS ?_ | with_reducible refine w_start ?_ | with_reducible refine w_revL ?_ | with_reducible refine w_iR3 ?_))
local macro_rules | `(tactic| walk_at "w") => `(tactic| (repeat (first | walk_at "w1" | dsimp (config := { proj := false }) only [List.set_cons_zero, List.set_cons_succ])))
section
variable {w : World} {K : PySem.W.Frag} {mg : Str → Option Value} {base : Heap}
local macro_rules | `(tactic| walk_at "v1") => `(tactic| (first
  | with_reducible refine w_seq ?_ | with_reducible refine w_asgN ?_ | with_reducible refine w_c ?_
  | ((with_reducible refine' w_var ?wv ?_); (case wv => exact rfl))
  | with_reducible refine w_op ?_ | with_reducible refine w_un ?_ | with_reducible refine w_next ?_ | with_reducible refine w_brk ?_ | with_reducible refine w_cnt ?_
  | with_reducible refine w_ifS ?_ | with_reducible refine w_if ?_ | with_reducible refine w_test ?_ | with_reducible refine w_tB ?_ | with_reducible refine w_bl ?_ | with_reducible refine w_blI ?_
  | with_reducible refine w_and ?_ | with_reducible refine w_or ?_ | with_reducible refine w_not ?_ | with_reducible refine w_andV ?_ | with_reducible refine w_orV ?_ | with_reducible refine w_notV ?_
  | with_reducible refine w_nil ?_ | with_reducible refine w_cons ?_ | with_reducible refine w_cb ?_ | with_reducible refine w_call ?_ | with_reducible refine w_callS ?_ | with_reducible refine w_chain ?_
  | with_reducible refine w_sl ?_ | with_reducible refine w_noPart ?_ | with_reducible refine w_part ?_ | with_reducible refine w_partI ?_
  | with_reducible refine w_ret ?_ | with_reducible refine w_retN ?_ | with_reducible refine w_drop ?_ | with_reducible refine w_asg ?_ | with_reducible refine w_gSub ?_
  | ((with_reducible refine' w_aug ?wv ?_); (case wv => exact rfl)) | with_reducible refine w_ipI ?_
  | with_reducible refine w_addI ?_ | with_reducible refine w_subI ?_ | with_reducible refine w_ltI ?_ | with_reducible refine w_leI ?_ | with_reducible refine w_gtI ?_ | with_reducible refine w_geI ?_
  | with_reducible refine w_eqI ?_ | with_reducible refine w_neI ?_ | with_reducible refine w_eqT ?_ | with_reducible refine w_neT ?_ | with_reducible refine w_inS ?_ | with_reducible refine w_ninS ?_
  | with_reducible refine w_absI ?_ | with_reducible refine w_intI ?_ | with_reducible refine w_maxI ?_ | with_reducible refine w_minI ?_
  | with_reducible refine w_for ?_ | with_reducible refine w_iR1 ?_ | with_reducible refine w_iR2 ?_ | with_reducible refine w_iStr ?_ | with_reducible refine w_strI ?_ | with_reducible refine w_iList ?_ | with_reducible refine w_iTup ?_
  | with_reducible refine w_bm ?_ | with_reducible refine w_bm0 ?_ | with_reducible refine w_t ?_ | with_reducible refine w_f ?_ | with_reducible refine w_nt ?_ | with_reducible refine w_nx ?_ | with_reducible refine w_rt ?_ | with_reducible refine w_bk ?_ | with_reducible refine w_ct ?_ | with_reducible refine w_nf ?_ | with_reducible refine w_lc ?_ | with_reducible refine w_yes ?_ | with_reducible refine w_neg ?_ | with_reducible refine w_intB ?_ | with_reducible refine w_fld ?_ | with_reducible refine w_setf ?_ | with_reducible refine w_faug ?_ | with_reducible refine w_meth ?_ | with_reducible refine w_bmS ?_ | with_reducible refine w_start ?_ | with_reducible refine w_revL ?_ | with_reducible refine w_iR3 ?_))
local macro_rules | `(tactic| walk_at "v") => `(tactic| (repeat (first | walk_at "v1" | dsimp (config := { proj := false }) only [List.set_cons_zero, List.set_cons_succ])))
local macro_rules | `(tactic| walk_at "d") => `(tactic| (repeat (first | exact eva_nil | refine eva_cons ?_ ?_ | exact ev_str | exact ev_int | exact ev_neg | refine ev_tup ?_ | (refine ev_var rfl ?_; assumption))))


def selL (b : Bool) : Lf → Option (List Nat × Kd)
  | .var w k => if b then some (w, k) else none
  | .cst w k => if b then none else some (w, k)
  | .bnd _ => none
def rowSel (b : Bool) : G2 → Option (List Nat × Kd)
  | .tip x => selL b x
  | _ => none
def wB (b : Bool) : List Nat := if b then wVAR else wCONST
def addN (acc : List (List Nat × Kd)) (e : List Nat × Kd) : List (List Nat × Kd) := if e ∈ acc then acc else acc ++ [e]
def onceC (b : Bool) (c : List G2) : List (List Nat × Kd) := (c.filterMap (rowSel b)).foldl addN []
def pairD (e : List Nat × Kd) : PyData := .tuple [.str (S e.1), e.2.d]
theorem pair_eqv (e f : List Nat × Kd) : PyData.eqv (pairD e) (pairD f) = decide (e = f) := by
  obtain ⟨w, k⟩ := e
  obtain ⟨v, j⟩ := f
  show PyData.eqv (.tuple [.str (S w), k.d]) (.tuple [.str (S v), j.d]) = _
  simp only [PyData.eqv, PyData.eqvAll, K02.S_beq, Kd.eqv]
  by_cases h1 : w = v <;> by_cases h2 : k = j <;> simp [h1, h2]
def PairOk (e : List Nat × Kd) : Prop := Cok e.1 ∧ GK e.2
theorem pair_lay {e : List Nat × Kd} (h : PairOk e) : (pairD e).canLay0 = true ∧ (pairD e).depth ≤ 60 := by
  have := gk_ht h.2
  refine ⟨by simp only [pairD, PyData.canLay0, PyData.canLayAll0, strOk_S h.1, e.2.lay h.2.1, Bool.and_self], ?_⟩
  simp only [pairD, PyData.depth, PyData.depthAll, Kd.depth]; omega
theorem pairs_lay : ∀ {es : List (List Nat × Kd)}, (∀ e ∈ es, PairOk e) → PyData.canLayAll0 (es.map pairD) = true ∧ PyData.depthAll (es.map pairD) ≤ 60
  | [], _ => ⟨rfl, Nat.zero_le _⟩
  | e :: es, h => by
    obtain ⟨a, b⟩ := pairs_lay fun e' he' => h e' (List.mem_cons_of_mem _ he')
    obtain ⟨c, d⟩ := pair_lay (h e List.mem_cons_self)
    refine ⟨by simp only [List.map_cons, PyData.canLayAll0, a, c, Bool.and_self], ?_⟩
    simp only [List.map_cons, PyData.depthAll]; omega
theorem sz_pair {e : List Nat × Kd} (h : PairOk e) : Sz 180 (pairD e) := ⟨(pair_lay h).1, by have := (pair_lay h).2; omega⟩
theorem sz_pairs {es : List (List Nat × Kd)} (h : ∀ e ∈ es, PairOk e) : Sz 180 (.list (es.map pairD)) := ⟨by simp only [PyData.canLay0]; exact (pairs_lay h).1, by simp only [PyData.depth]; have := (pairs_lay h).2; omega⟩
theorem pair_in (es : List (List Nat × Kd)) (e : List Nat × Kd) : ((es.map pairD).any fun z => PyData.eqv z (pairD e)) = decide (e ∈ es) := by
  rw [List.any_map]
  have h : ((fun z => PyData.eqv z (pairD e)) ∘ pairD) = fun v => decide (v = e) := by funext v; exact pair_eqv v e
  rw [h]
  by_cases z : e ∈ es
  · rw [decide_eq_true z]; exact List.any_eq_true.mpr ⟨e, z, decide_eq_true rfl⟩
  · rw [decide_eq_false z]; exact List.any_eq_false.mpr fun v hv => by simp; intro y; subst y; exact z hv
theorem sel_ok {b : Bool} {r : G2} {e : List Nat × Kd} (h : r.gok) (s : rowSel b r = some e) : PairOk e := by
  cases r with
  | app => cases s
  | lam k => cases s
  | tip x =>
    cases x with
    | bnd i => cases s
    | var w k =>
      cases b with
      | true => cases s; exact ⟨(name_cok h.1).1, h.2⟩
      | false => cases s
    | cst w k =>
      cases b with
      | true => cases s
      | false => cases s; exact ⟨(lg_cok h.1).1, h.2⟩
theorem sel_gw {b : Bool} {r : G2} : decide (gw r = wB b) = (rowSel b r).isSome := by
  cases r with
  | app => cases b; exact decide_eq_false (show ¬ wAPP = wCONST by decide); exact decide_eq_false (show ¬ wAPP = wVAR by decide)
  | lam k => cases b; exact decide_eq_false (show ¬ wLAM = wCONST by decide); exact decide_eq_false (show ¬ wLAM = wVAR by decide)
  | tip x =>
    cases x with
    | bnd i => cases b; exact decide_eq_false (show ¬ wBOUND = wCONST by decide); exact decide_eq_false (show ¬ wBOUND = wVAR by decide)
    | var w k => cases b; exact decide_eq_false (show ¬ wVAR = wCONST by decide); exact decide_eq_true (show wVAR = wVAR from rfl)
    | cst w k => cases b; exact decide_eq_true (show wCONST = wCONST from rfl); exact decide_eq_false (show ¬ wCONST = wVAR by decide)
theorem sel_d {b : Bool} {r : G2} {e : List Nat × Kd} (s : rowSel b r = some e) : (upR r).d = .tuple [.str (S (wB b)), .str (S e.1), e.2.d] := by
  cases r with
  | app => cases s
  | lam k => cases s
  | tip x =>
    cases x with
    | bnd i => cases s
    | var w k => cases b <;> cases s; rfl
    | cst w k => cases b <;> cases s; rfl
def sp_law_once : Sp := sp2 fun x y H Q _ => ∃ (p : Addr) (c : List G2) (b : Bool), x = .ref p ∧ y = .str (S (wB b)) ∧ DL H p (gd c) ∧ c.length ≤ 5000 ∧ (∀ r ∈ c, r.gok) ∧ ∀ v H', Same H H' → TD H' v (.tuple ((onceC b c).map pairD)) → Q v H'
theorem ok_law_once (T : Txt w K mg) {fd : FuncData} (F : Fn_law_once K fd) (hm : mg "_law_once" = some (.ref (He.ga K "_law_once")))  : CalX P w K mg base CX0 1 "_law_once" sp_law_once := by
  refine calx0 (k := 0) F hm sc_law_once (b_law_once F) (fun _ _ _ _ h => sp2_len h) (fun cdv A outer s H vs Q E hr h => ?_)
  obtain ⟨x0, x1, rfl, h⟩ := h
  refine ⟨_, (pss_cons (ps_set (i := 2) sc_law_once.nd rfl (Or.inl rfl) (pe_lst pa_nil))
    (pss_cons (ps_for PassesOwn.never rfl (pi_list (pv 0)) (pg_name (i := 3) sc_law_once.nd rfl (Or.inl rfl))
    (pss_one (ps_if (PW.pt (pw_and (pt_cmpR op_eq (pe_ix ix_tup (pv 3) pe_int (fun _ _ => rfl)) (pv 1) (nomark _)) (pw_and1 (pt_cmpR (op_notInN hr) (pe_tup (pa_cons (pe_ix ix_tup (pv 3) pe_int (fun _ _ => rfl)) (pa_cons (pe_ix ix_tup (pv 3) pe_int (fun _ _ => rfl)) pa_nil))) (pv 2) rfl))))
    (pss_one (ps_expr (pe_bm PySem.F.plainAttrs_list PySem.F.slot_list_append PySem.F.type_list_append mt_append (pv 2) (pa_cons (pe_tup (pa_cons (pe_ix ix_tup (pv 3) pe_int (fun _ _ => rfl)) (pa_cons (pe_ix ix_tup (pv 3) pe_int (fun _ _ => rfl)) pa_nil))) pa_nil))))
    pss_nil)))
    (pss_one (ps_ret (pe_callTy call_tupL (by rfl) T.f_tuple (by decide +kernel) (pa_cons (pv 2) pa_nil)))))), ?_⟩
  rw [show start ["code", "word", "found", "row"] [x0, x1] = [some x0, some x1, none, none] from rfl]
  obtain ⟨p, c, b, rfl, rfl, hd, hz, hg, hQ⟩ := h
  try dsimp only [cxOf]
  walk_at "v"
  refine ev_lst (ds := []) (by walk_at "d") (fun fq H1 hf s1 df => ?_)
  walk_at "v"
  obtain ⟨xs, e0, t0⟩ := hd
  have lx : xs.length = c.length := by rw [t0.len, gd_len]
  refine w_lstI (SqL.of (s1 _ _ e0)) ?_
  refine for_list (xs := xs) (fun i σ H' => ∃ (es : List (List Nat × Kd)) (v3 : Option V), σ = [some (.ref p), some (.str (S (wB b))), some (.ref fq), v3] ∧ Same H H' ∧ DL H' fq (es.map pairD) ∧ es = ((c.take i).filterMap (rowSel b)).foldl addN [] ∧ es.length ≤ i ∧ ∀ e ∈ es, PairOk e)
    ⟨[], _, rfl, s1, df, rfl, Nat.zero_le _, fun e he => by cases he⟩ (fun i σ H' _ h => by obtain ⟨_, _, _, h, _⟩ := h; exact SqL.of (h _ _ e0)) ?_ ?_
  · rintro i x σ H3 hx ⟨es, v3, rfl, s3, d3, hes, hl, hok⟩
    have hi : i < c.length := by rw [← lx]; exact (List.getElem?_eq_some_iff.mp hx).1
    have ek : c[i]? = some c[i] := List.getElem?_eq_getElem hi
    have gi := hg _ (List.getElem_mem hi)
    obtain ⟨d, ed, td⟩ := (t0.tm (Tm.same s3)).get' hx
    have ed : d = (upR c[i]).d := by rw [gd_at ek] at ed; exact (Option.some.inj ed).symm
    subst ed
    generalize c[i] = r at ek gi td
    have hnx : (c.take (i + 1)).filterMap (rowSel b) = (c.take i).filterMap (rowSel b) ++ (rowSel b r).toList := by
      rw [List.take_add_one, ek, List.filterMap_append]
      cases hs : rowSel b r <;> simp [hs]
    obtain ⟨rest, erd⟩ := gw_d r
    have tdx : TD H3 x (.tuple (.str (S (gw r)) :: rest)) := by rw [← erd]; exact td
    dsimp only [gName]
    walk_at "v"
    refine t_ixS (n := 0) tdx rfl ?_
    walk_at "v"
    rw [sel_gw]
    cases hs : rowSel b r with
    | none =>
      rw [show (none : Option (List Nat × Kd)).isSome = false from rfl]
      walk_at "v"
      exact ⟨es, _, rfl, s3, d3, by rw [hnx, hs]; show es = List.foldl addN [] (_ ++ []); rw [List.append_nil]; exact hes, by omega, hok⟩
    | some e =>
      rw [sel_d hs] at td
      have pe := sel_ok gi hs
      have hes' : ((c.take (i + 1)).filterMap (rowSel b)).foldl addN [] = addN es e := by rw [hnx, hs, List.foldl_append, ← hes]; rfl
      rw [show (some e).isSome = true from rfl]
      walk_at "v"
      refine w_tupN ?_
      walk_at "v"
      refine t_ixS (n := 1) td rfl ?_
      walk_at "v"
      refine t_ix (n := 2) td rfl (fun y1 ty1 => ?_)
      walk_at "v"
      refine t_new (ds := [.str (S e.1), e.2.d]) (.cons (.str _) (.cons ty1 .nil)) (fun p4 H4 hp4 s4 t4 => ?_)
      walk_at "v"
      refine d_ninL (d := pairD e) t4 (d3.same s4) (sz_pair pe) (sz_pairs hok) ?_
      rw [pair_in]
      walk_at "v"
      have s34 := s3.tr s4
      refine w_ndec (fun h1 => ?_) (fun h1 => ?_)
      · walk_at "v"
        refine l_ty (d3.same s4) ?_
        walk_at "v"
        refine w_tupN ?_
        walk_at "v"
        have td4 := td.tm (Tm.same s4)
        refine t_ixS (n := 1) td4 rfl ?_
        walk_at "v"
        refine t_ix (n := 2) td4 rfl (fun y2 ty2 => ?_)
        walk_at "v"
        refine t_new (ds := [.str (S e.1), e.2.d]) (.cons (.str _) (.cons ty2 .nil)) (fun p5 H5 hp5 s5 t5 => ?_)
        walk_at "v"
        refine l_app (d := pairD e) ((d3.same s4).same s5) t5 (fun H6 d6 x6 => ?_) (by rw [List.length_map]; omega)
        walk_at "v"
        refine ⟨es ++ [e], _, rfl, (s34.tr s5).ex hf x6, by rw [List.map_append]; exact d6, by rw [hes']; unfold addN; rw [if_neg h1], by rw [List.length_append]; show es.length + 1 ≤ i + 1; omega, fun e' he' => ?_⟩
        rcases List.mem_append.mp he' with he' | he'
        · exact hok e' he'
        · rw [List.mem_singleton.mp he']; exact pe
      · walk_at "v"
        exact ⟨es, _, rfl, s34, d3.same s4, by rw [hes']; unfold addN; rw [if_pos h1], by omega, hok⟩
  · rintro σ H3 ⟨es, v3, rfl, s3, d3, hes, hl, hok⟩
    rw [lx, List.take_length] at hes
    have hes : es = onceC b c := hes
    subst hes
    walk_at "v"
    obtain ⟨ys, ey, ty⟩ := d3
    refine w_tupL (SqL.of ey) (fun l hl' => ?_)
    have s4 := same_upd (o := .tup ys) hl'
    exact hQ _ _ (s3.tr s4) (.tup upd_same (ty.tm (Tm.same s4)))
end
end K01

namespace K01
open PySem PySem.Spec PyProof.Rows L2 SX K02
local macro_rules | `(tactic| walk_at "w1") => `(tactic| (first
  | with_reducible refine w_seq ?_ | with_reducible refine w_asgN ?_ | with_reducible refine w_c ?_
  | ((with_reducible refine' w_var ?wv ?_); (case wv => exact rfl))
  | with_reducible refine w_op ?_ | with_reducible refine w_un ?_ | with_reducible refine w_next ?_ | with_reducible refine w_brk ?_ | with_reducible refine w_cnt ?_
  | with_reducible refine w_ifS ?_ | with_reducible refine w_if ?_ | with_reducible refine w_test ?_ | with_reducible refine w_tB ?_ | with_reducible refine w_bl ?_ | with_reducible refine w_blI ?_
  | with_reducible refine w_and ?_ | with_reducible refine w_or ?_ | with_reducible refine w_not ?_ | with_reducible refine w_andV ?_ | with_reducible refine w_orV ?_ | with_reducible refine w_notV ?_
  | with_reducible refine w_nil ?_ | with_reducible refine w_cons ?_ | with_reducible refine w_cb ?_ | with_reducible refine w_call ?_ | with_reducible refine w_callS ?_ | with_reducible refine w_chain ?_
  | with_reducible refine w_tupN ?_ | with_reducible refine w_lstN ?_ | with_reducible refine w_sl ?_ | with_reducible refine w_noPart ?_ | with_reducible refine w_part ?_ | with_reducible refine w_partI ?_
  | with_reducible refine w_ret ?_ | with_reducible refine w_retN ?_ | with_reducible refine w_drop ?_ | with_reducible refine w_asg ?_ | with_reducible refine w_gSub ?_
  | ((with_reducible refine' w_aug ?wv ?_); (case wv => exact rfl)) | with_reducible refine w_ipI ?_
  | with_reducible refine w_addI ?_ | with_reducible refine w_subI ?_ | with_reducible refine w_ltI ?_ | with_reducible refine w_leI ?_ | with_reducible refine w_gtI ?_ | with_reducible refine w_geI ?_
  | with_reducible refine w_eqI ?_ | with_reducible refine w_neI ?_ | with_reducible refine w_eqT ?_ | with_reducible refine w_neT ?_ | with_reducible refine w_inS ?_ | with_reducible refine w_ninS ?_
  | with_reducible refine w_absI ?_ | with_reducible refine w_intI ?_ | with_reducible refine w_maxI ?_ | with_reducible refine w_minI ?_
  | with_reducible refine w_for ?_ | with_reducible refine w_iR1 ?_ | with_reducible refine w_iR2 ?_ | with_reducible refine w_iStr ?_ | with_reducible refine w_strI ?_ | with_reducible refine w_iList ?_ | with_reducible refine w_iTup ?_
  | with_reducible refine w_bm ?_ | with_reducible refine w_bm0 ?_ | with_reducible refine w_t ?_ | with_reducible refine w_f ?_ | with_reducible refine w_nt ?_ | with_reducible refine w_nx ?_ | with_reducible refine w_rt ?_ | with_reducible refine w_bk ?_ | with_reducible refine w_ct ?_ | with_reducible refine w_nf ?_ | with_reducible refine w_lc ?_ | with_reducible refine w_yes ?_ | with_reducible refine w_neg ?_ | with_reducible refine w_intB ?_ | with_reducible refine w_fld ?_ | with_reducible refine w_setf ?_ | with_reducible refine w_faug ?_ | with_reducible refine w_meth ?_ | with_reducible refine w_bmS ?_ | with_reducible refine w_start ?_ | with_reducible refine w_revL ?_ | with_reducible refine w_iR3 ?_))
local macro_rules | `(tactic| walk_at "w") => `(tactic| (repeat (first | walk_at "w1" | dsimp (config := { proj := false }) only [List.set_cons_zero, List.set_cons_succ])))
section
variable {w : World} {K : PySem.W.Frag} {mg : Str → Option Value} {base : Heap}
local macro_rules | `(tactic| walk_at "v1") => `(tactic| (first
  | with_reducible refine w_seq ?_ | with_reducible refine w_asgN ?_ | with_reducible refine w_c ?_
  | ((with_reducible refine' w_var ?wv ?_); (case wv => exact rfl))
  | with_reducible refine w_op ?_ | with_reducible refine w_un ?_ | with_reducible refine w_next ?_ | with_reducible refine w_brk ?_ | with_reducible refine w_cnt ?_
  | with_reducible refine w_ifS ?_ | with_reducible refine w_if ?_ | with_reducible refine w_test ?_ | with_reducible refine w_tB ?_ | with_reducible refine w_bl ?_ | with_reducible refine w_blI ?_
  | with_reducible refine w_and ?_ | with_reducible refine w_or ?_ | with_reducible refine w_not ?_ | with_reducible refine w_andV ?_ | with_reducible refine w_orV ?_ | with_reducible refine w_notV ?_
  | with_reducible refine w_nil ?_ | with_reducible refine w_cons ?_ | with_reducible refine w_cb ?_ | with_reducible refine w_call ?_ | with_reducible refine w_callS ?_ | with_reducible refine w_chain ?_
  | with_reducible refine w_sl ?_ | with_reducible refine w_noPart ?_ | with_reducible refine w_part ?_ | with_reducible refine w_partI ?_
  | with_reducible refine w_ret ?_ | with_reducible refine w_retN ?_ | with_reducible refine w_drop ?_ | with_reducible refine w_asg ?_ | with_reducible refine w_gSub ?_
  | ((with_reducible refine' w_aug ?wv ?_); (case wv => exact rfl)) | with_reducible refine w_ipI ?_
  | with_reducible refine w_addI ?_ | with_reducible refine w_subI ?_ | with_reducible refine w_ltI ?_ | with_reducible refine w_leI ?_ | with_reducible refine w_gtI ?_ | with_reducible refine w_geI ?_
  | with_reducible refine w_eqI ?_ | with_reducible refine w_neI ?_ | with_reducible refine w_eqT ?_ | with_reducible refine w_neT ?_ | with_reducible refine w_inS ?_ | with_reducible refine w_ninS ?_
  | with_reducible refine w_absI ?_ | with_reducible refine w_intI ?_ | with_reducible refine w_maxI ?_ | with_reducible refine w_minI ?_
  | with_reducible refine w_for ?_ | with_reducible refine w_iR1 ?_ | with_reducible refine w_iR2 ?_ | with_reducible refine w_iStr ?_ | with_reducible refine w_strI ?_ | with_reducible refine w_iList ?_ | with_reducible refine w_iTup ?_
  | with_reducible refine w_bm ?_ | with_reducible refine w_bm0 ?_ | with_reducible refine w_t ?_ | with_reducible refine w_f ?_ | with_reducible refine w_nt ?_ | with_reducible refine w_nx ?_ | with_reducible refine w_rt ?_ | with_reducible refine w_bk ?_ | with_reducible refine w_ct ?_ | with_reducible refine w_nf ?_ | with_reducible refine w_lc ?_ | with_reducible refine w_yes ?_ | with_reducible refine w_neg ?_ | with_reducible refine w_intB ?_ | with_reducible refine w_fld ?_ | with_reducible refine w_setf ?_ | with_reducible refine w_faug ?_ | with_reducible refine w_meth ?_ | with_reducible refine w_bmS ?_ | with_reducible refine w_start ?_ | with_reducible refine w_revL ?_ | with_reducible refine w_iR3 ?_))
local macro_rules | `(tactic| walk_at "v") => `(tactic| (repeat (first | walk_at "v1" | dsimp (config := { proj := false }) only [List.set_cons_zero, List.set_cons_succ])))
local macro_rules | `(tactic| walk_at "d") => `(tactic| (repeat (first | exact eva_nil | refine eva_cons ?_ ?_ | exact ev_str | exact ev_int | exact ev_neg | refine ev_tup ?_ | (refine ev_var rfl ?_; assumption))))


def treeSel (b : Bool) : Gt → Option (List Nat × Kd)
  | .tip x => selL b x
  | _ => none
def onceT (b : Bool) (g : Gt) : List (List Nat × Kd) := ((pts g 0).filterMap fun e => treeSel b e.1).foldl addN []
theorem pts_leaves (b : Bool) : ∀ (g : Gt) (l : Nat), ((pts g l).filterMap fun e => treeSel b e.1) = (lvs1 g).filterMap (selL b)
  | .app f a, l => by
    show List.filterMap _ ((.app f a, l) :: (pts f l ++ pts a l)) = List.filterMap _ (lvs1 f ++ lvs1 a)
    rw [List.filterMap_append, ← pts_leaves b f l, ← pts_leaves b a l, ← List.filterMap_append]; rfl
  | .lam j t, l => by
    show List.filterMap _ ((.lam j t, l) :: pts t (l + 1)) = List.filterMap _ (lvs1 t)
    rw [← pts_leaves b t (l + 1)]; rfl
  | .tip x, l => rfl
theorem rows_leaves (b : Bool) : ∀ c : List G2, c.filterMap (rowSel b) = (tipsC c).filterMap (selL b)
  | [] => rfl
  | .app :: c => rows_leaves b c
  | .lam _ :: c => rows_leaves b c
  | .tip x :: c => by
    show List.filterMap (rowSel b) (.tip x :: c) = List.filterMap (selL b) (x :: tipsC c)
    rw [List.filterMap_cons, List.filterMap_cons, rows_leaves b c]; rfl
theorem once_eq {c : List G2} {g : Gt} (h : fok c) (e : fo c = [g]) (b : Bool) : onceT b g = onceC b c := by
  unfold onceT onceC
  rw [pts_leaves, rows_leaves, fo_leaves1 h e]
theorem pts_gok : ∀ {g : Gt} (l : Nat), g.gok → ∀ e ∈ pts g l, e.1.gok
  | .app f a, l, h, e, he => by
    rcases List.mem_cons.mp he with rfl | he
    · exact h
    rcases List.mem_append.mp he with he | he
    · exact pts_gok l h.1 e he
    · exact pts_gok l h.2 e he
  | .lam j t, l, h, e, he => by
    rcases List.mem_cons.mp he with rfl | he
    · exact h
    · exact pts_gok (l + 1) h.2 e he
  | .tip x, l, h, e, he => by rw [List.mem_singleton.mp he]; exact h
def gT : Gt → List Nat
  | .app _ _ => wAPP
  | .lam _ _ => wLAM
  | .tip x => gw (.tip x)
theorem gT_d (g : Gt) : ∃ rest, (upT g).d = .tuple (.str (S (gT g)) :: rest) := by
  cases g with
  | app f a => exact ⟨_, rfl⟩
  | lam k b => exact ⟨_, rfl⟩
  | tip x => exact gw_d (.tip x)
theorem selT_gw {b : Bool} {g : Gt} : decide (gT g = wB b) = (treeSel b g).isSome := by
  cases g with
  | app f a => exact sel_gw (r := .app)
  | lam k t => exact sel_gw (r := .lam k)
  | tip x => exact sel_gw (r := .tip x)
theorem selT_d {b : Bool} {g : Gt} {e : List Nat × Kd} (s : treeSel b g = some e) : (upT g).d = .tuple [.str (S (wB b)), .str (S e.1), e.2.d] := by
  cases g with
  | app f a => cases s
  | lam k t => cases s
  | tip x => exact sel_d (r := .tip x) s
theorem selT_ok {b : Bool} {g : Gt} {e : List Nat × Kd} (h : g.gok) (s : treeSel b g = some e) : PairOk e := by
  cases g with
  | app f a => cases s
  | lam k t => cases s
  | tip x => exact sel_ok (r := .tip x) h s
def sp_pairs_of : Sp := sp2 fun x y H Q _ => ∃ (g : Gt) (b : Bool), TD H x (upT g).d ∧ y = .str (S (wB b)) ∧ g.gok ∧ g.nodes ≤ 5000 ∧ ∀ v H', Same H H' → TD H' v (.tuple ((onceT b g).map pairD)) → Q v H'
theorem ok_pairs_of (T : Txt w K mg) {fd : FuncData} (F : Fn_pairs_of K fd) (hm : mg "_pairs_of" = some (.ref (He.ga K "_pairs_of"))) (c_parts : CalX P w K mg base CX0 1 "_parts" sp_parts) : CalX P w K mg base CX0 2 "_pairs_of" sp_pairs_of := by
  refine calx0 (k := 1) F hm sc_pairs_of (b_pairs_of F) (fun _ _ _ _ h => sp2_len h) (fun cdv A outer s H vs Q E hr h => ?_)
  obtain ⟨x0, x1, rfl, h⟩ := h
  refine ⟨_, (pss_cons (ps_set (i := 2) sc_pairs_of.nd rfl (Or.inl rfl) (pe_lst pa_nil))
    (pss_cons (ps_for PassesOwn.never rfl (pi_list (pe_cx c_parts hr (by decide) rfl pass0 (pa_cons (pv 0) pa_nil))) (pg_tup (by rfl) (pgs_cons (pg_name (i := 3) sc_pairs_of.nd rfl (Or.inl rfl)) (pgs_cons (pg_name (i := 4) sc_pairs_of.nd rfl (Or.inl rfl)) pgs_nil)))
    (pss_one (ps_if (PW.pt (pw_and (pt_cmpR op_eq (pe_ix ix_tup (pv 3) pe_int (fun _ _ => rfl)) (pv 1) (nomark _)) (pw_and1 (pt_cmpR (op_notInN hr) (pe_tup (pa_cons (pe_ix ix_tup (pv 3) pe_int (fun _ _ => rfl)) (pa_cons (pe_ix ix_tup (pv 3) pe_int (fun _ _ => rfl)) pa_nil))) (pv 2) rfl))))
    (pss_one (ps_expr (pe_bm PySem.F.plainAttrs_list PySem.F.slot_list_append PySem.F.type_list_append mt_append (pv 2) (pa_cons (pe_tup (pa_cons (pe_ix ix_tup (pv 3) pe_int (fun _ _ => rfl)) (pa_cons (pe_ix ix_tup (pv 3) pe_int (fun _ _ => rfl)) pa_nil))) pa_nil))))
    pss_nil)))
    (pss_one (ps_ret (pe_callTy call_tupL (by rfl) T.f_tuple (by decide +kernel) (pa_cons (pv 2) pa_nil)))))), ?_⟩
  rw [show start ["term", "word", "found", "part", "_"] [x0, x1] = [some x0, some x1, none, none, none] from rfl]
  obtain ⟨g, b, hd, rfl, hg, hz, hQ⟩ := h
  try dsimp only [cxOf]
  walk_at "v"
  refine ev_lst (ds := []) (by walk_at "d") (fun fq H1 hf s1 df => ?_)
  walk_at "v"
  refine ⟨_, rfl, g, hd.tm (Tm.same s1), by omega, fun pq H2 hp2 s2 d2 => ?_⟩
  walk_at "v"
  obtain ⟨xs, e0, t0⟩ := d2
  have lx : xs.length = g.nodes := by rw [t0.len]; unfold wm; rw [List.length_map, pts_len]
  have s02 := s1.tr s2
  have hpf : pq ≠ fq := fun z => by obtain ⟨_, e⟩ := df.lst; rw [z, e] at hp2; cases hp2
  refine w_lstI (SqL.of e0) ?_
  refine for_list (xs := xs) (fun i σ H' => ∃ (es : List (List Nat × Kd)) (v3 v4 : Option V), σ = [some x0, some (.str (S (wB b))), some (.ref fq), v3, v4] ∧ Same H H' ∧ H' pq = some (.lst xs) ∧ TDs H' xs (wm (pts g 0)) ∧ DL H' fq (es.map pairD) ∧ es = (((pts g 0).take i).filterMap fun e => treeSel b e.1).foldl addN [] ∧ es.length ≤ i ∧ ∀ e ∈ es, PairOk e)
    ⟨[], _, _, rfl, s02, e0, t0, df.same s2, rfl, Nat.zero_le _, fun e he => by cases he⟩ (fun i σ H' _ h => by obtain ⟨_, _, _, _, _, h, _⟩ := h; exact SqL.of h) ?_ ?_
  · rintro i x σ H3 hx ⟨es, v3, v4, rfl, s3, e3, t3, d3, hes, hl, hok⟩
    have hi : i < g.nodes := by rw [← lx]; exact (List.getElem?_eq_some_iff.mp hx).1
    obtain ⟨d, ed, td⟩ := t3.get' hx
    obtain ⟨e0', ee, rfl⟩ : ∃ e, (pts g 0)[i]? = some e ∧ d = .tuple [(upT e.1).d, .int (e.2 : Int)] := by
      unfold wm at ed
      rw [List.getElem?_map] at ed
      cases z : (pts g 0)[i]? with
      | none => rw [z] at ed; cases ed
      | some e => rw [z] at ed; exact ⟨e, rfl, (Option.some.inj ed).symm⟩
    have gi := pts_gok 0 hg _ (List.mem_of_getElem? ee)
    obtain ⟨r, l⟩ := e0'
    have gi : r.gok := gi
    have hnx : (((pts g 0).take (i + 1)).filterMap fun e => treeSel b e.1) = (((pts g 0).take i).filterMap fun e => treeSel b e.1) ++ (treeSel b r).toList := by
      rw [List.take_add_one, ee, List.filterMap_append]
      cases hs : treeSel b r <;> simp [hs]
    obtain ⟨q2, qs, rfl, hq2, tqs⟩ := td.tuple
    obtain ⟨x, z, rfl, td, tz⟩ := tqs.two
    have td : TD H3 x (upT r).d := td
    refine w_un2 rfl hq2 ?_
    walk_at "v"
    obtain ⟨rest, erd⟩ := gT_d r
    have tdx : TD H3 x (.tuple (.str (S (gT r)) :: rest)) := by rw [← erd]; exact td
    refine t_ixS (n := 0) tdx rfl ?_
    walk_at "v"
    rw [selT_gw]
    cases hs : treeSel b r with
    | none =>
      rw [show (none : Option (List Nat × Kd)).isSome = false from rfl]
      walk_at "v"
      exact ⟨es, _, _, rfl, s3, e3, t3, d3, by rw [hnx, hs]; show es = List.foldl addN [] (_ ++ []); rw [List.append_nil]; exact hes, by omega, hok⟩
    | some e =>
      rw [selT_d hs] at td
      have pe := selT_ok gi hs
      have hes' : (((pts g 0).take (i + 1)).filterMap fun e => treeSel b e.1).foldl addN [] = addN es e := by rw [hnx, hs, List.foldl_append, ← hes]; rfl
      rw [show (some e).isSome = true from rfl]
      walk_at "v"
      refine w_tupN ?_
      walk_at "v"
      refine t_ixS (n := 1) td rfl ?_
      walk_at "v"
      refine t_ix (n := 2) td rfl (fun y1 ty1 => ?_)
      walk_at "v"
      refine t_new (ds := [.str (S e.1), e.2.d]) (.cons (.str _) (.cons ty1 .nil)) (fun p4 H4 hp4 s4 t4 => ?_)
      walk_at "v"
      refine d_ninL (d := pairD e) t4 (d3.same s4) (sz_pair pe) (sz_pairs hok) ?_
      rw [pair_in]
      walk_at "v"
      have s34 := s3.tr s4
      refine w_ndec (fun h1 => ?_) (fun h1 => ?_)
      · walk_at "v"
        refine l_ty (d3.same s4) ?_
        walk_at "v"
        refine w_tupN ?_
        walk_at "v"
        have td4 := td.tm (Tm.same s4)
        refine t_ixS (n := 1) td4 rfl ?_
        walk_at "v"
        refine t_ix (n := 2) td4 rfl (fun y2 ty2 => ?_)
        walk_at "v"
        refine t_new (ds := [.str (S e.1), e.2.d]) (.cons (.str _) (.cons ty2 .nil)) (fun p5 H5 hp5 s5 t5 => ?_)
        walk_at "v"
        refine l_app (d := pairD e) ((d3.same s4).same s5) t5 (fun H6 d6 x6 => ?_) (by rw [List.length_map]; omega)
        walk_at "v"
        refine ⟨es ++ [e], _, _, rfl, (s34.tr s5).ex hf x6, by rw [x6 pq hpf]; exact s5 _ _ (s4 _ _ e3), t3.tm (((Tm.same s4).tr (Tm.same s5)).tr (((d3.same s4).same s5).tm_ex x6)), by rw [List.map_append]; exact d6, by rw [hes']; unfold addN; rw [if_neg h1], by rw [List.length_append]; show es.length + 1 ≤ i + 1; omega, fun e' he' => ?_⟩
        rcases List.mem_append.mp he' with he' | he'
        · exact hok e' he'
        · rw [List.mem_singleton.mp he']; exact pe
      · walk_at "v"
        exact ⟨es, _, _, rfl, s34, s4 _ _ e3, t3.tm (Tm.same s4), d3.same s4, by rw [hes']; unfold addN; rw [if_pos h1], by omega, hok⟩
  · rintro σ H3 ⟨es, v3, v4, rfl, s3, e3, t3, d3, hes, hl, hok⟩
    rw [List.take_of_length_le (by rw [pts_len]; omega)] at hes
    have hes : es = onceT b g := hes
    subst hes
    walk_at "v"
    obtain ⟨ys, ey, ty⟩ := d3
    refine w_tupL (SqL.of ey) (fun l hl' => ?_)
    have s4 := same_upd (o := .tup ys) hl'
    exact hQ _ _ (s3.tr s4) (.tup upd_same (ty.tm (Tm.same s4)))

def sp_free_vars : Sp := sp1 fun x H Q _ => ∃ g : Gt, TD H x (upT g).d ∧ g.gok ∧ g.nodes ≤ 5000 ∧ ∀ v H', Same H H' → TD H' v (.tuple ((onceT true g).map pairD)) → Q v H'
theorem ok_free_vars (T : Txt w K mg) {fd : FuncData} (F : Fn_free_vars K fd) (hm : mg "free_vars" = some (.ref (He.ga K "free_vars"))) (c_pairs_of : CalX P w K mg base CX0 2 "_pairs_of" sp_pairs_of) : CalX P w K mg base CX0 3 "free_vars" sp_free_vars := by
  refine calx0 (k := 2) F hm sc_free_vars (b_free_vars F) (fun _ _ _ _ h => sp1_len h) (fun cdv A outer s H vs Q E hr h => ?_)
  obtain ⟨x0, rfl, h⟩ := h
  refine ⟨_, (pss_one (ps_ret (pe_cx c_pairs_of hr (by decide) rfl pass0 (pa_cons (pv 0) (pa_cons pe_str pa_nil))))), ?_⟩
  rw [show start ["term"] [x0] = [some x0] from rfl]
  have ec0 : Str.ofString "var" = S [118,97,114] := S_ofs (by decide +kernel)
  rw [ec0]
  obtain ⟨g, hd, hg, hz, hQ⟩ := h
  try dsimp only [cxOf]
  walk_at "v"
  exact ⟨_, _, rfl, g, true, hd, rfl, hg, hz, hQ⟩

def sp_term_consts : Sp := sp1 fun x H Q _ => ∃ g : Gt, TD H x (upT g).d ∧ g.gok ∧ g.nodes ≤ 5000 ∧ ∀ v H', Same H H' → TD H' v (.tuple ((onceT false g).map pairD)) → Q v H'
theorem ok_term_consts (T : Txt w K mg) {fd : FuncData} (F : Fn_term_consts K fd) (hm : mg "term_consts" = some (.ref (He.ga K "term_consts"))) (c_pairs_of : CalX P w K mg base CX0 2 "_pairs_of" sp_pairs_of) : CalX P w K mg base CX0 3 "term_consts" sp_term_consts := by
  refine calx0 (k := 2) F hm sc_term_consts (b_term_consts F) (fun _ _ _ _ h => sp1_len h) (fun cdv A outer s H vs Q E hr h => ?_)
  obtain ⟨x0, rfl, h⟩ := h
  refine ⟨_, (pss_one (ps_ret (pe_cx c_pairs_of hr (by decide) rfl pass0 (pa_cons (pv 0) (pa_cons pe_str pa_nil))))), ?_⟩
  rw [show start ["term"] [x0] = [some x0] from rfl]
  have ec0 : Str.ofString "const" = S [99,111,110,115,116] := S_ofs (by decide +kernel)
  rw [ec0]
  obtain ⟨g, hd, hg, hz, hQ⟩ := h
  try dsimp only [cxOf]
  walk_at "v"
  exact ⟨_, _, rfl, g, false, hd, rfl, hg, hz, hQ⟩
end
end K01

namespace K01
open PySem PySem.Spec PyProof.Rows L2 SX K02
local macro_rules | `(tactic| walk_at "w1") => `(tactic| (first
  | with_reducible refine w_seq ?_ | with_reducible refine w_asgN ?_ | with_reducible refine w_c ?_
  | ((with_reducible refine' w_var ?wv ?_); (case wv => exact rfl))
  | with_reducible refine w_op ?_ | with_reducible refine w_un ?_ | with_reducible refine w_next ?_ | with_reducible refine w_brk ?_ | with_reducible refine w_cnt ?_
  | with_reducible refine w_ifS ?_ | with_reducible refine w_if ?_ | with_reducible refine w_test ?_ | with_reducible refine w_tB ?_ | with_reducible refine w_bl ?_ | with_reducible refine w_blI ?_
  | with_reducible refine w_and ?_ | with_reducible refine w_or ?_ | with_reducible refine w_not ?_ | with_reducible refine w_andV ?_ | with_reducible refine w_orV ?_ | with_reducible refine w_notV ?_
  | with_reducible refine w_nil ?_ | with_reducible refine w_cons ?_ | with_reducible refine w_cb ?_ | with_reducible refine w_call ?_ | with_reducible refine w_callS ?_ | with_reducible refine w_chain ?_
  | with_reducible refine w_tupN ?_ | with_reducible refine w_lstN ?_ | with_reducible refine w_sl ?_ | with_reducible refine w_noPart ?_ | with_reducible refine w_part ?_ | with_reducible refine w_partI ?_
  | with_reducible refine w_ret ?_ | with_reducible refine w_retN ?_ | with_reducible refine w_drop ?_ | with_reducible refine w_asg ?_ | with_reducible refine w_gSub ?_
  | ((with_reducible refine' w_aug ?wv ?_); (case wv => exact rfl)) | with_reducible refine w_ipI ?_
  | with_reducible refine w_addI ?_ | with_reducible refine w_subI ?_ | with_reducible refine w_ltI ?_ | with_reducible refine w_leI ?_ | with_reducible refine w_gtI ?_ | with_reducible refine w_geI ?_
  | with_reducible refine w_eqI ?_ | with_reducible refine w_neI ?_ | with_reducible refine w_eqT ?_ | with_reducible refine w_neT ?_ | with_reducible refine w_inS ?_ | with_reducible refine w_ninS ?_
  | with_reducible refine w_absI ?_ | with_reducible refine w_intI ?_ | with_reducible refine w_maxI ?_ | with_reducible refine w_minI ?_
  | with_reducible refine w_for ?_ | with_reducible refine w_iR1 ?_ | with_reducible refine w_iR2 ?_ | with_reducible refine w_iStr ?_ | with_reducible refine w_strI ?_ | with_reducible refine w_iList ?_ | with_reducible refine w_iTup ?_
  | with_reducible refine w_bm ?_ | with_reducible refine w_bm0 ?_ | with_reducible refine w_t ?_ | with_reducible refine w_f ?_ | with_reducible refine w_nt ?_ | with_reducible refine w_nx ?_ | with_reducible refine w_rt ?_ | with_reducible refine w_bk ?_ | with_reducible refine w_ct ?_ | with_reducible refine w_nf ?_ | with_reducible refine w_lc ?_ | with_reducible refine w_yes ?_ | with_reducible refine w_neg ?_ | with_reducible refine w_intB ?_ | with_reducible refine w_fld ?_ | with_reducible refine w_setf ?_ | with_reducible refine w_faug ?_ | with_reducible refine w_meth ?_ | with_reducible refine w_bmS ?_ | with_reducible refine w_start ?_ | with_reducible refine w_revL ?_ | with_reducible refine w_iR3 ?_))
local macro_rules | `(tactic| walk_at "w") => `(tactic| (repeat (first | walk_at "w1" | dsimp (config := { proj := false }) only [List.set_cons_zero, List.set_cons_succ])))
section
variable {w : World} {K : PySem.W.Frag} {mg : Str → Option Value} {base : Heap}
local macro_rules | `(tactic| walk_at "v1") => `(tactic| (first
  | with_reducible refine w_seq ?_ | with_reducible refine w_asgN ?_ | with_reducible refine w_c ?_
  | ((with_reducible refine' w_var ?wv ?_); (case wv => exact rfl))
  | with_reducible refine w_op ?_ | with_reducible refine w_un ?_ | with_reducible refine w_next ?_ | with_reducible refine w_brk ?_ | with_reducible refine w_cnt ?_
  | with_reducible refine w_ifS ?_ | with_reducible refine w_if ?_ | with_reducible refine w_test ?_ | with_reducible refine w_tB ?_ | with_reducible refine w_bl ?_ | with_reducible refine w_blI ?_
  | with_reducible refine w_and ?_ | with_reducible refine w_or ?_ | with_reducible refine w_not ?_ | with_reducible refine w_andV ?_ | with_reducible refine w_orV ?_ | with_reducible refine w_notV ?_
  | with_reducible refine w_nil ?_ | with_reducible refine w_cons ?_ | with_reducible refine w_cb ?_ | with_reducible refine w_call ?_ | with_reducible refine w_callS ?_ | with_reducible refine w_chain ?_
  | with_reducible refine w_sl ?_ | with_reducible refine w_noPart ?_ | with_reducible refine w_part ?_ | with_reducible refine w_partI ?_
  | with_reducible refine w_ret ?_ | with_reducible refine w_retN ?_ | with_reducible refine w_drop ?_ | with_reducible refine w_asg ?_ | with_reducible refine w_gSub ?_
  | ((with_reducible refine' w_aug ?wv ?_); (case wv => exact rfl)) | with_reducible refine w_ipI ?_
  | with_reducible refine w_addI ?_ | with_reducible refine w_subI ?_ | with_reducible refine w_ltI ?_ | with_reducible refine w_leI ?_ | with_reducible refine w_gtI ?_ | with_reducible refine w_geI ?_
  | with_reducible refine w_eqI ?_ | with_reducible refine w_neI ?_ | with_reducible refine w_eqT ?_ | with_reducible refine w_neT ?_ | with_reducible refine w_inS ?_ | with_reducible refine w_ninS ?_
  | with_reducible refine w_absI ?_ | with_reducible refine w_intI ?_ | with_reducible refine w_maxI ?_ | with_reducible refine w_minI ?_
  | with_reducible refine w_for ?_ | with_reducible refine w_iR1 ?_ | with_reducible refine w_iR2 ?_ | with_reducible refine w_iStr ?_ | with_reducible refine w_strI ?_ | with_reducible refine w_iList ?_ | with_reducible refine w_iTup ?_
  | with_reducible refine w_bm ?_ | with_reducible refine w_bm0 ?_ | with_reducible refine w_t ?_ | with_reducible refine w_f ?_ | with_reducible refine w_nt ?_ | with_reducible refine w_nx ?_ | with_reducible refine w_rt ?_ | with_reducible refine w_bk ?_ | with_reducible refine w_ct ?_ | with_reducible refine w_nf ?_ | with_reducible refine w_lc ?_ | with_reducible refine w_yes ?_ | with_reducible refine w_neg ?_ | with_reducible refine w_intB ?_ | with_reducible refine w_fld ?_ | with_reducible refine w_setf ?_ | with_reducible refine w_faug ?_ | with_reducible refine w_meth ?_ | with_reducible refine w_bmS ?_ | with_reducible refine w_start ?_ | with_reducible refine w_revL ?_ | with_reducible refine w_iR3 ?_))
local macro_rules | `(tactic| walk_at "v") => `(tactic| (repeat (first | walk_at "v1" | dsimp (config := { proj := false }) only [List.set_cons_zero, List.set_cons_succ])))
local macro_rules | `(tactic| walk_at "d") => `(tactic| (repeat (first | exact eva_nil | refine eva_cons ?_ ?_ | exact ev_str | exact ev_int | exact ev_neg | refine ev_tup ?_ | (refine ev_var rfl ?_; assumption))))


def putK2 (tb : Tb Kd) : Kd → Kd
  | .fr w => (tb w).getD (.fr w)
  | .to a b => .to (putK2 tb a) (putK2 tb b)
  | .nm w => .nm w
/-- a dict from texts to kinds -/
def KD (H : Hp) (a : Addr) (tb : Tb Kd) : Prop := ∃ kvs : List (Key × V), H a = some (.dK kvs) ∧ ∀ w, (valV kvs (Sum.inr (S w)) = none ∧ tb w = none) ∨ ∃ v k, valV kvs (Sum.inr (S w)) = some v ∧ tb w = some k ∧ TD H v k.d
theorem KD.same {H H' : Hp} {a : Addr} {tb : Tb Kd} (h : KD H a tb) (s : Same H H') : KD H' a tb := by
  obtain ⟨kvs, e, f⟩ := h
  refine ⟨kvs, s _ _ e, fun w => (f w).imp id fun ⟨v, k, a, b, t⟩ => ⟨v, k, a, b, t.tm (Tm.same s)⟩⟩
def sp_pk (n : Nat) : Sp := sp2 fun x y H Q _ => ∃ (k : Kd) (a : Addr) (tb : Tb Kd), TD H x k.d ∧ y = .ref a ∧ KD H a tb ∧ k.ht ≤ n ∧ ∀ v H', Same H H' → TD H' v (putK2 tb k).d → Q v H'
theorem pk_step (T : Txt w K mg) {fd : FuncData} (F : Fn_put_kind K fd) (hm : mg "put_kind" = some (.ref (He.ga K "put_kind"))) (n : Nat) (c_put_kind : CalX P w K mg base CX0 (n + 1) "put_kind" (sp_pk n)) : CalX P w K mg base CX0 (n + 2) "put_kind" (sp_pk (n + 1)) := by
  refine calx0 (k := n + 1) F hm sc_put_kind (b_put_kind F) (fun _ _ _ _ h => sp2_len h) (fun cdv A outer s H vs Q E hr h => ?_)
  obtain ⟨x0, x1, rfl, h⟩ := h
  refine ⟨_, (pss_cons (ps_if (pt_cmpR op_eq (pe_ix ix_tup (pv 0) pe_int (fun _ _ => rfl)) pe_str (nomark _))
    (pss_one (ps_ret (pe_dget2 (hu_of hr) (pv 1) (pe_ix ix_tup (pv 0) pe_int (fun _ _ => rfl)) (pv 0) ⟨rfl, rfl, rfl, rfl⟩)))
    pss_nil)
    (pss_cons (ps_if (pt_cmpR op_eq (pe_ix ix_tup (pv 0) pe_int (fun _ _ => rfl)) pe_str (nomark _))
    (pss_one (ps_ret (pe_tup (pa_cons pe_str (pa_cons (pe_cx c_put_kind hr (Nat.le_refl _) rfl pass0 (pa_cons (pe_ix ix_tup (pv 0) pe_int (fun _ _ => rfl)) (pa_cons (pv 1) pa_nil))) (pa_cons (pe_cx c_put_kind hr (Nat.le_refl _) rfl pass0 (pa_cons (pe_ix ix_tup (pv 0) pe_int (fun _ _ => rfl)) (pa_cons (pv 1) pa_nil))) pa_nil))))))
    pss_nil)
    (pss_one (ps_ret (pv 0))))), ?_⟩
  rw [show start ["kind", "table"] [x0, x1] = [some x0, some x1] from rfl]
  have ec0 : Str.ofString "free" = S [102,114,101,101] := S_ofs (by decide +kernel)
  have ec1 : Str.ofString "to" = S [116,111] := S_ofs (by decide +kernel)
  rw [ec0, ec1]
  obtain ⟨k, a, tb, hx, rfl, hk, hn, hQ⟩ := h
  try dsimp only [cxOf]
  walk_at "v"
  cases k with
  | fr w =>
    have hx : TD H x0 (.tuple [.str (S wFREE), .str (S w)]) := hx
    refine t_ixS (n := 0) hx rfl ?_
    walk_at "v"
    rw [show decide (wFREE = [102, 114, 101, 101]) = true from by decide]
    walk_at "v"
    obtain ⟨kvs, ek, hkv⟩ := hk
    refine w_var rfl ⟨a, rfl, .inl ⟨kvs, .inl ek⟩, ?_⟩
    walk_at "v"
    refine t_ixS (n := 1) hx rfl ?_
    walk_at "v"
    refine ⟨_, DGet.k (k := Sum.inr (S w)) ek, ?_⟩
    rcases hkv w with ⟨h1, h2⟩ | ⟨v, k', h1, h2, h3⟩
    · rw [h1]
      exact hQ x0 H (Same.refl' H) (by show TD H x0 ((tb w).getD (.fr w)).d; rw [h2]; exact hx)
    · rw [h1]
      exact hQ v H (Same.refl' H) (by show TD H v ((tb w).getD (.fr w)).d; rw [h2]; exact h3)
  | nm w =>
    have hx : TD H x0 (.tuple [.str (S wNAMED), .str (S w)]) := hx
    refine t_ixS (n := 0) hx rfl ?_
    walk_at "v"
    rw [show decide (wNAMED = [102, 114, 101, 101]) = false from by decide]
    walk_at "v"
    refine t_ixS (n := 0) hx rfl ?_
    walk_at "v"
    rw [show decide (wNAMED = [116, 111]) = false from by decide]
    walk_at "v"
    exact hQ x0 H (Same.refl' H) hx
  | to b c =>
    have hx : TD H x0 (.tuple [.str (S wTO), b.d, c.d]) := hx
    have hdp : max b.ht c.ht + 1 ≤ n + 1 := hn
    refine t_ixS (n := 0) hx rfl ?_
    walk_at "v"
    rw [show decide (wTO = [102, 114, 101, 101]) = false from by decide]
    walk_at "v"
    refine t_ixS (n := 0) hx rfl ?_
    walk_at "v"
    rw [show decide (wTO = [116, 111]) = true from by decide]
    walk_at "v"
    refine w_tupN ?_
    walk_at "v"
    refine t_ix (n := 1) hx rfl (fun y1 ty1 => ?_)
    walk_at "v"
    refine ⟨_, _, rfl, b, a, tb, ty1, rfl, hk, by omega, fun v1 H1 s1 t1 => ?_⟩
    walk_at "v"
    refine t_ix (n := 2) (hx.tm (Tm.same s1)) rfl (fun y2 ty2 => ?_)
    walk_at "v"
    refine ⟨_, _, rfl, c, a, tb, ty2, rfl, hk.same s1, by omega, fun v2 H2 s2 t2 => ?_⟩
    walk_at "v"
    refine t_new (ds := [.str (S wTO), (putK2 tb b).d, (putK2 tb c).d]) (.cons (.str _) (.cons (t1.tm (Tm.same s2)) (.cons t2 .nil))) (fun p3 H3 hp3 s3 t3 => ?_)
    exact hQ _ H3 ((s1.tr s2).tr s3) t3

theorem ht_pos : ∀ k : Kd, 1 ≤ k.ht
  | .nm _ => Nat.le_refl _
  | .fr _ => Nat.le_refl _
  | .to _ _ => Nat.succ_pos _
theorem pk_all (T : Txt w K mg) {fd : FuncData} (F : Fn_put_kind K fd) (hm : mg "put_kind" = some (.ref (He.ga K "put_kind"))) : ∀ n, CalX P w K mg base CX0 (n + 1) "put_kind" (sp_pk n)
  | 0 => calx0 (k := 0) F hm sc_put_kind (b_put_kind F) (fun _ _ _ _ h => sp2_len h) (fun cdv A outer s H vs Q E hr h => by
      obtain ⟨x0, x1, rfl, k, _, _, _, _, _, hn, _⟩ := h
      have := ht_pos k
      omega)
  | n + 1 => pk_step T F hm n (pk_all T F hm n)
end
end K01

namespace K01
open PySem PySem.Spec PyProof.Rows L2 SX K02
local macro_rules | `(tactic| walk_at "w1") => `(tactic| (first
  | with_reducible refine w_seq ?_ | with_reducible refine w_asgN ?_ | with_reducible refine w_c ?_
  | ((with_reducible refine' w_var ?wv ?_); (case wv => exact rfl))
  | with_reducible refine w_op ?_ | with_reducible refine w_un ?_ | with_reducible refine w_next ?_ | with_reducible refine w_brk ?_ | with_reducible refine w_cnt ?_
  | with_reducible refine w_ifS ?_ | with_reducible refine w_if ?_ | with_reducible refine w_test ?_ | with_reducible refine w_tB ?_ | with_reducible refine w_bl ?_ | with_reducible refine w_blI ?_
  | with_reducible refine w_and ?_ | with_reducible refine w_or ?_ | with_reducible refine w_not ?_ | with_reducible refine w_andV ?_ | with_reducible refine w_orV ?_ | with_reducible refine w_notV ?_
  | with_reducible refine w_nil ?_ | with_reducible refine w_cons ?_ | with_reducible refine w_cb ?_ | with_reducible refine w_call ?_ | with_reducible refine w_callS ?_ | with_reducible refine w_chain ?_
  | with_reducible refine w_tupN ?_ | with_reducible refine w_lstN ?_ | with_reducible refine w_sl ?_ | with_reducible refine w_noPart ?_ | with_reducible refine w_part ?_ | with_reducible refine w_partI ?_
  | with_reducible refine w_ret ?_ | with_reducible refine w_retN ?_ | with_reducible refine w_drop ?_ | with_reducible refine w_asg ?_ | with_reducible refine w_gSub ?_
  | ((with_reducible refine' w_aug ?wv ?_); (case wv => exact rfl)) | with_reducible refine w_ipI ?_
  | with_reducible refine w_addI ?_ | with_reducible refine w_subI ?_ | with_reducible refine w_ltI ?_ | with_reducible refine w_leI ?_ | with_reducible refine w_gtI ?_ | with_reducible refine w_geI ?_
  | with_reducible refine w_eqI ?_ | with_reducible refine w_neI ?_ | with_reducible refine w_eqT ?_ | with_reducible refine w_neT ?_ | with_reducible refine w_inS ?_ | with_reducible refine w_ninS ?_
  | with_reducible refine w_absI ?_ | with_reducible refine w_intI ?_ | with_reducible refine w_maxI ?_ | with_reducible refine w_minI ?_
  | with_reducible refine w_for ?_ | with_reducible refine w_iR1 ?_ | with_reducible refine w_iR2 ?_ | with_reducible refine w_iStr ?_ | with_reducible refine w_strI ?_ | with_reducible refine w_iList ?_ | with_reducible refine w_iTup ?_
  | with_reducible refine w_bm ?_ | with_reducible refine w_bm0 ?_ | with_reducible refine w_t ?_ | with_reducible refine w_f ?_ | with_reducible refine w_nt ?_ | with_reducible refine w_nx ?_ | with_reducible refine w_rt ?_ | with_reducible refine w_bk ?_ | with_reducible refine w_ct ?_ | with_reducible refine w_nf ?_ | with_reducible refine w_lc ?_ | with_reducible refine w_yes ?_ | with_reducible refine w_neg ?_ | with_reducible refine w_intB ?_ | with_reducible refine w_fld ?_ | with_reducible refine w_setf ?_ | with_reducible refine w_faug ?_ | with_reducible refine w_meth ?_ | with_reducible refine w_bmS ?_ | with_reducible refine w_start ?_ | with_reducible refine w_revL ?_ | with_reducible refine w_iR3 ?_))
local macro_rules | `(tactic| walk_at "w") => `(tactic| (repeat (first | walk_at "w1" | dsimp (config := { proj := false }) only [List.set_cons_zero, List.set_cons_succ])))
section
variable {w : World} {K : PySem.W.Frag} {mg : Str → Option Value} {base : Heap}
local macro_rules | `(tactic| walk_at "v1") => `(tactic| (first
  | with_reducible refine w_seq ?_ | with_reducible refine w_asgN ?_ | with_reducible refine w_c ?_
  | ((with_reducible refine' w_var ?wv ?_); (case wv => exact rfl))
  | with_reducible refine w_op ?_ | with_reducible refine w_un ?_ | with_reducible refine w_next ?_ | with_reducible refine w_brk ?_ | with_reducible refine w_cnt ?_
  | with_reducible refine w_ifS ?_ | with_reducible refine w_if ?_ | with_reducible refine w_test ?_ | with_reducible refine w_tB ?_ | with_reducible refine w_bl ?_ | with_reducible refine w_blI ?_
  | with_reducible refine w_and ?_ | with_reducible refine w_or ?_ | with_reducible refine w_not ?_ | with_reducible refine w_andV ?_ | with_reducible refine w_orV ?_ | with_reducible refine w_notV ?_
  | with_reducible refine w_nil ?_ | with_reducible refine w_cons ?_ | with_reducible refine w_cb ?_ | with_reducible refine w_call ?_ | with_reducible refine w_callS ?_ | with_reducible refine w_chain ?_
  | with_reducible refine w_sl ?_ | with_reducible refine w_noPart ?_ | with_reducible refine w_part ?_ | with_reducible refine w_partI ?_
  | with_reducible refine w_ret ?_ | with_reducible refine w_retN ?_ | with_reducible refine w_drop ?_ | with_reducible refine w_asg ?_ | with_reducible refine w_gSub ?_
  | ((with_reducible refine' w_aug ?wv ?_); (case wv => exact rfl)) | with_reducible refine w_ipI ?_
  | with_reducible refine w_addI ?_ | with_reducible refine w_subI ?_ | with_reducible refine w_ltI ?_ | with_reducible refine w_leI ?_ | with_reducible refine w_gtI ?_ | with_reducible refine w_geI ?_
  | with_reducible refine w_eqI ?_ | with_reducible refine w_neI ?_ | with_reducible refine w_eqT ?_ | with_reducible refine w_neT ?_ | with_reducible refine w_inS ?_ | with_reducible refine w_ninS ?_
  | with_reducible refine w_absI ?_ | with_reducible refine w_intI ?_ | with_reducible refine w_maxI ?_ | with_reducible refine w_minI ?_
  | with_reducible refine w_for ?_ | with_reducible refine w_iR1 ?_ | with_reducible refine w_iR2 ?_ | with_reducible refine w_iStr ?_ | with_reducible refine w_strI ?_ | with_reducible refine w_iList ?_ | with_reducible refine w_iTup ?_
  | with_reducible refine w_bm ?_ | with_reducible refine w_bm0 ?_ | with_reducible refine w_t ?_ | with_reducible refine w_f ?_ | with_reducible refine w_nt ?_ | with_reducible refine w_nx ?_ | with_reducible refine w_rt ?_ | with_reducible refine w_bk ?_ | with_reducible refine w_ct ?_ | with_reducible refine w_nf ?_ | with_reducible refine w_lc ?_ | with_reducible refine w_yes ?_ | with_reducible refine w_neg ?_ | with_reducible refine w_intB ?_ | with_reducible refine w_fld ?_ | with_reducible refine w_setf ?_ | with_reducible refine w_faug ?_ | with_reducible refine w_meth ?_ | with_reducible refine w_bmS ?_ | with_reducible refine w_start ?_ | with_reducible refine w_revL ?_ | with_reducible refine w_iR3 ?_))
local macro_rules | `(tactic| walk_at "v") => `(tactic| (repeat (first | walk_at "v1" | dsimp (config := { proj := false }) only [List.set_cons_zero, List.set_cons_succ])))
local macro_rules | `(tactic| walk_at "d") => `(tactic| (repeat (first | exact eva_nil | refine eva_cons ?_ ?_ | exact ev_str | exact ev_int | exact ev_neg | refine ev_tup ?_ | (refine ev_var rfl ?_; assumption))))


/-- a dict with text keys: what stands at its keys -/
def DOk (H : Hp) (kvs : List (Key × V)) (n : Nat) (f : Tb PyData) : Prop := kvs.length ≤ n ∧ (∀ p ∈ kvs, flatB p.2 = true ∨ ∃ b, p.2 = V.ref b) ∧
  ∀ w, (valV kvs (Sum.inr (S w)) = none ∧ f w = none) ∨ ∃ v d, valV kvs (Sum.inr (S w)) = some v ∧ f w = some d ∧ TD H v d
theorem DOk.tm {H H' : Hp} {kvs : List (Key × V)} {n : Nat} {f : Tb PyData} (h : DOk H kvs n f) (t : Tm H H') : DOk H' kvs n f :=
  ⟨h.1, h.2.1, fun w => (h.2.2 w).imp id fun ⟨v, d, a, b, c⟩ => ⟨v, d, a, b, c.tm t⟩⟩
theorem DOk.nil {H : Hp} : DOk H [] 0 (fun _ => none) := ⟨Nat.le_refl _, fun p hp => absurd hp List.not_mem_nil, fun w => .inl ⟨rfl, rfl⟩⟩
theorem mem_putK {κ : Type} [DecidableEq κ] {kvs : List (κ × V)} {k : κ} {v : V} {p : κ × V} (h : p ∈ putK kvs k v) : p ∈ kvs ∨ p.2 = v := by
  unfold putK at h
  split at h
  · obtain ⟨q, hq, rfl⟩ := List.mem_map.mp h
    split
    · exact .inr rfl
    · exact .inl hq
  · rcases List.mem_append.mp h with h | h
    · exact .inl h
    · rw [List.mem_singleton.mp h]; exact .inr rfl
theorem TD.flat {H : Hp} {v : V} {d : PyData} (h : TD H v d) : flatB v = true ∨ ∃ b, v = V.ref b := by
  cases h with
  | tup _ _ => exact .inr ⟨_, rfl⟩
  | _ => exact .inl rfl
def setT {α : Type} (f : Tb α) (w : List Nat) (x : α) : Tb α := fun w' => if w' = w then some x else f w'
theorem inrS {a b : List Nat} : ((Sum.inr (S a) : Key) = Sum.inr (S b)) ↔ a = b := ⟨fun z => SX.S_inj (Sum.inr.inj z), fun z => by rw [z]⟩
theorem DOk.put {H : Hp} {kvs : List (Key × V)} {n : Nat} {f : Tb PyData} {w : List Nat} {v : V} {d : PyData} (h : DOk H kvs n f) (t : TD H v d) : DOk H (putK kvs (Sum.inr (S w)) v) (n + 1) (setT f w d) := by
  refine ⟨Nat.le_trans (length_putK _ _ _) (Nat.succ_le_succ h.1), fun p hp => ?_, fun w' => ?_⟩
  · rcases mem_putK hp with hp | hp
    · exact h.2.1 p hp
    · rw [hp]; exact TD.flat t
  · rw [valV_put]
    unfold setT
    by_cases z : w' = w
    · subst z
      rw [if_pos rfl, if_pos rfl]; exact .inr ⟨v, d, rfl, rfl, t⟩
    · rw [if_neg (fun y => z (inrS.mp y)), if_neg z]; exact h.2.2 w'
theorem DOk.kd {H : Hp} {a : Addr} {kvs : List (Key × V)} {n : Nat} {tb : Tb Kd} (e : H a = some (.dK kvs)) (h : DOk H kvs n fun w => (tb w).map Kd.d) : KD H a tb := by
  refine ⟨kvs, e, fun w => ?_⟩
  rcases h.2.2 w with ⟨h1, h2⟩ | ⟨v, d, h1, h2, h3⟩
  · exact .inl ⟨h1, Option.map_eq_none_iff.mp h2⟩
  · obtain ⟨k, e1, e2⟩ := Option.map_eq_some_iff.mp h2
    exact .inr ⟨v, k, h1, e1, by rw [e2]; exact h3⟩
theorem DOk.ext {H : Hp} {kvs : List (Key × V)} {n : Nat} {f g : Tb PyData} (h : DOk H kvs n f) (e : ∀ w, g w = f w) : DOk H kvs n g := by rw [show g = f from funext e]; exact h
def mapLf (tb : Tb Kd) : Lf → Lf
  | .var w k => .var w (putK2 tb k)
  | .cst w k => .cst w (putK2 tb k)
  | .bnd i => .bnd i
def pkT (tb : Tb Kd) (g : Gt) : Gt := g.map (putK2 tb) (mapLf tb)
def sp_pks (n : Nat) : Sp := sp2 fun x y H Q _ => ∃ (g : Gt) (a : Addr) (tb : Tb Kd), TD H x (upT g).d ∧ y = .ref a ∧ KD H a tb ∧ g.gok ∧ g.dep ≤ n ∧ ∀ v H', Same H H' → TD H' v (upT (pkT tb g)).d → Q v H'
theorem pks_step (T : Txt w K mg) {fd : FuncData} (F : Fn_put_kinds K fd) (hm : mg "put_kinds" = some (.ref (He.ga K "put_kinds"))) (n : Nat) (c_put_kind : CalX P w K mg base CX0 51 "put_kind" (sp_pk 50)) (c_put_kinds : CalX P w K mg base CX0 (n + 52) "put_kinds" (sp_pks n)) : CalX P w K mg base CX0 (n + 53) "put_kinds" (sp_pks (n + 1)) := by
  refine calx0 (k := n + 52) F hm sc_put_kinds (b_put_kinds F) (fun _ _ _ _ h => sp2_len h) (fun cdv A outer s H vs Q E hr h => ?_)
  obtain ⟨x0, x1, rfl, h⟩ := h
  refine ⟨_, (pss_cons (ps_if (pt_cmpR op_eq (pe_ix ix_tup (pv 0) pe_int (fun _ _ => rfl)) pe_str (nomark _))
    (pss_one (ps_ret (pe_tup (pa_cons pe_str (pa_cons (pe_cx c_put_kinds hr (Nat.le_refl _) rfl pass0 (pa_cons (pe_ix ix_tup (pv 0) pe_int (fun _ _ => rfl)) (pa_cons (pv 1) pa_nil))) (pa_cons (pe_cx c_put_kinds hr (Nat.le_refl _) rfl pass0 (pa_cons (pe_ix ix_tup (pv 0) pe_int (fun _ _ => rfl)) (pa_cons (pv 1) pa_nil))) pa_nil))))))
    pss_nil)
    (pss_cons (ps_if (pt_cmpR op_eq (pe_ix ix_tup (pv 0) pe_int (fun _ _ => rfl)) pe_str (nomark _))
    (pss_one (ps_ret (pe_tup (pa_cons pe_str (pa_cons (pe_cx c_put_kind hr (by omega) rfl pass0 (pa_cons (pe_ix ix_tup (pv 0) pe_int (fun _ _ => rfl)) (pa_cons (pv 1) pa_nil))) (pa_cons (pe_cx c_put_kinds hr (Nat.le_refl _) rfl pass0 (pa_cons (pe_ix ix_tup (pv 0) pe_int (fun _ _ => rfl)) (pa_cons (pv 1) pa_nil))) pa_nil))))))
    pss_nil)
    (pss_cons (ps_if (pt_cmpR op_eq (pe_ix ix_tup (pv 0) pe_int (fun _ _ => rfl)) pe_str (nomark _))
    (pss_one (ps_ret (pv 0)))
    pss_nil)
    (pss_one (ps_ret (pe_tup (pa_cons (pe_ix ix_tup (pv 0) pe_int (fun _ _ => rfl)) (pa_cons (pe_ix ix_tup (pv 0) pe_int (fun _ _ => rfl)) (pa_cons (pe_cx c_put_kind hr (by omega) rfl pass0 (pa_cons (pe_ix ix_tup (pv 0) pe_int (fun _ _ => rfl)) (pa_cons (pv 1) pa_nil))) pa_nil))))))))), ?_⟩
  rw [show start ["term", "table"] [x0, x1] = [some x0, some x1] from rfl]
  have ec0 : Str.ofString "app" = S [97,112,112] := S_ofs (by decide +kernel)
  have ec1 : Str.ofString "lam" = S [108,97,109] := S_ofs (by decide +kernel)
  have ec2 : Str.ofString "bound" = S [98,111,117,110,100] := S_ofs (by decide +kernel)
  rw [ec0, ec1, ec2]
  obtain ⟨g, a, tb, hx, rfl, hk, hg, hn, hQ⟩ := h
  try dsimp only [cxOf]
  walk_at "v"
  cases g with
  | app f b =>
    have hx : TD H x0 (.tuple [.str (S wAPP), (upT f).d, (upT b).d]) := hx
    have hdp : max f.dep b.dep + 1 ≤ n + 1 := hn
    refine t_ixS (n := 0) hx rfl ?_
    walk_at "v"
    rw [show decide (wAPP = [97, 112, 112]) = true from by decide]
    walk_at "v"
    refine w_tupN ?_
    walk_at "v"
    refine t_ix (n := 1) hx rfl (fun y1 ty1 => ?_)
    walk_at "v"
    refine ⟨_, _, rfl, f, a, tb, ty1, rfl, hk, hg.1, by omega, fun v1 H1 s1 t1 => ?_⟩
    walk_at "v"
    refine t_ix (n := 2) (hx.tm (Tm.same s1)) rfl (fun y2 ty2 => ?_)
    walk_at "v"
    refine ⟨_, _, rfl, b, a, tb, ty2, rfl, hk.same s1, hg.2, by omega, fun v2 H2 s2 t2 => ?_⟩
    walk_at "v"
    refine t_new (ds := [.str (S wAPP), (upT (pkT tb f)).d, (upT (pkT tb b)).d]) (.cons (.str _) (.cons (t1.tm (Tm.same s2)) (.cons t2 .nil))) (fun p3 H3 hp3 s3 t3 => ?_)
    exact hQ _ H3 ((s1.tr s2).tr s3) t3
  | lam j b =>
    have hx : TD H x0 (.tuple [.str (S wLAM), j.d, (upT b).d]) := hx
    have hdp : b.dep + 1 ≤ n + 1 := hn
    refine t_ixS (n := 0) hx rfl ?_
    walk_at "v"
    rw [show decide (wLAM = [97, 112, 112]) = false from by decide]
    walk_at "v"
    refine t_ixS (n := 0) hx rfl ?_
    walk_at "v"
    rw [show decide (wLAM = [108, 97, 109]) = true from by decide]
    walk_at "v"
    refine w_tupN ?_
    walk_at "v"
    refine t_ix (n := 1) hx rfl (fun y1 ty1 => ?_)
    walk_at "v"
    refine ⟨_, _, rfl, j, a, tb, ty1, rfl, hk, gk_ht hg.1, fun v1 H1 s1 t1 => ?_⟩
    walk_at "v"
    refine t_ix (n := 2) (hx.tm (Tm.same s1)) rfl (fun y2 ty2 => ?_)
    walk_at "v"
    refine ⟨_, _, rfl, b, a, tb, ty2, rfl, hk.same s1, hg.2, by omega, fun v2 H2 s2 t2 => ?_⟩
    walk_at "v"
    refine t_new (ds := [.str (S wLAM), (putK2 tb j).d, (upT (pkT tb b)).d]) (.cons (.str _) (.cons (t1.tm (Tm.same s2)) (.cons t2 .nil))) (fun p3 H3 hp3 s3 t3 => ?_)
    exact hQ _ H3 ((s1.tr s2).tr s3) t3
  | tip x =>
    obtain ⟨rest, ed⟩ := gw_d (.tip x)
    have m12 := gw_tip x
    have hx' : TD H x0 (.tuple (.str (S (gw (.tip x))) :: rest)) := by rw [← ed]; exact hx
    refine t_ixS (n := 0) hx' rfl ?_
    walk_at "v"
    rw [show decide (gw (.tip x) = [97, 112, 112]) = false from decide_eq_false m12.1]
    walk_at "v"
    refine t_ixS (n := 0) hx' rfl ?_
    walk_at "v"
    rw [show decide (gw (.tip x) = [108, 97, 109]) = false from decide_eq_false m12.2]
    walk_at "v"
    refine t_ixS (n := 0) hx' rfl ?_
    walk_at "v"
    cases x with
    | bnd i =>
      rw [show decide (gw (.tip (.bnd i)) = [98, 111, 117, 110, 100]) = true from (show decide (wBOUND = [98, 111, 117, 110, 100]) = true by decide)]
      walk_at "v"
      exact hQ x0 H (Same.refl' H) hx
    | var w' k' =>
      rw [show decide (gw (.tip (.var w' k')) = [98, 111, 117, 110, 100]) = false from (show decide (wVAR = [98, 111, 117, 110, 100]) = false by decide)]
      walk_at "v"
      have hx2 : TD H x0 (.tuple [.str (S wVAR), .str (S w'), k'.d]) := hx
      refine w_tupN ?_
      walk_at "v"
      refine t_ixS (n := 0) hx2 rfl ?_
      walk_at "v"
      refine t_ixS (n := 1) hx2 rfl ?_
      walk_at "v"
      refine t_ix (n := 2) hx2 rfl (fun y2 ty2 => ?_)
      walk_at "v"
      refine ⟨_, _, rfl, k', a, tb, ty2, rfl, hk, gk_ht hg.2, fun v1 H1 s1 t1 => ?_⟩
      walk_at "v"
      refine t_new (ds := [.str (S wVAR), .str (S w'), (putK2 tb k').d]) (.cons (.str _) (.cons (.str _) (.cons t1 .nil))) (fun p3 H3 hp3 s3 t3 => ?_)
      exact hQ _ H3 (s1.tr s3) t3
    | cst w' k' =>
      rw [show decide (gw (.tip (.cst w' k')) = [98, 111, 117, 110, 100]) = false from (show decide (wCONST = [98, 111, 117, 110, 100]) = false by decide)]
      walk_at "v"
      have hx2 : TD H x0 (.tuple [.str (S wCONST), .str (S w'), k'.d]) := hx
      refine w_tupN ?_
      walk_at "v"
      refine t_ixS (n := 0) hx2 rfl ?_
      walk_at "v"
      refine t_ixS (n := 1) hx2 rfl ?_
      walk_at "v"
      refine t_ix (n := 2) hx2 rfl (fun y2 ty2 => ?_)
      walk_at "v"
      refine ⟨_, _, rfl, k', a, tb, ty2, rfl, hk, gk_ht hg.2, fun v1 H1 s1 t1 => ?_⟩
      walk_at "v"
      refine t_new (ds := [.str (S wCONST), .str (S w'), (putK2 tb k').d]) (.cons (.str _) (.cons (.str _) (.cons t1 .nil))) (fun p3 H3 hp3 s3 t3 => ?_)
      exact hQ _ H3 (s1.tr s3) t3


theorem pks_all (T : Txt w K mg) {fd : FuncData} (F : Fn_put_kinds K fd) (hm : mg "put_kinds" = some (.ref (He.ga K "put_kinds"))) (c_put_kind : CalX P w K mg base CX0 51 "put_kind" (sp_pk 50)) : ∀ n, CalX P w K mg base CX0 (n + 52) "put_kinds" (sp_pks n)
  | 0 => calx0 (k := 51) F hm sc_put_kinds (b_put_kinds F) (fun _ _ _ _ h => sp2_len h) (fun cdv A outer s H vs Q E hr h => by
      obtain ⟨x0, x1, rfl, g, _, _, _, _, _, _, hn, _⟩ := h
      have := g.dep_pos
      omega)
  | n + 1 => pks_step T F hm n c_put_kind (pks_all T F hm c_put_kind n)
end
end K01

namespace K01
open PySem PySem.Spec PyProof.Rows L2 SX K02
local macro_rules | `(tactic| walk_at "w1") => `(tactic| (first
  | with_reducible refine w_seq ?_ | with_reducible refine w_asgN ?_ | with_reducible refine w_c ?_
  | ((with_reducible refine' w_var ?wv ?_); (case wv => exact rfl))
  | with_reducible refine w_op ?_ | with_reducible refine w_un ?_ | with_reducible refine w_next ?_ | with_reducible refine w_brk ?_ | with_reducible refine w_cnt ?_
  | with_reducible refine w_ifS ?_ | with_reducible refine w_if ?_ | with_reducible refine w_test ?_ | with_reducible refine w_tB ?_ | with_reducible refine w_bl ?_ | with_reducible refine w_blI ?_
  | with_reducible refine w_and ?_ | with_reducible refine w_or ?_ | with_reducible refine w_not ?_ | with_reducible refine w_andV ?_ | with_reducible refine w_orV ?_ | with_reducible refine w_notV ?_
  | with_reducible refine w_nil ?_ | with_reducible refine w_cons ?_ | with_reducible refine w_cb ?_ | with_reducible refine w_call ?_ | with_reducible refine w_callS ?_ | with_reducible refine w_chain ?_
  | with_reducible refine w_tupN ?_ | with_reducible refine w_lstN ?_ | with_reducible refine w_sl ?_ | with_reducible refine w_noPart ?_ | with_reducible refine w_part ?_ | with_reducible refine w_partI ?_
  | with_reducible refine w_ret ?_ | with_reducible refine w_retN ?_ | with_reducible refine w_drop ?_ | with_reducible refine w_asg ?_ | with_reducible refine w_gSub ?_
  | ((with_reducible refine' w_aug ?wv ?_); (case wv => exact rfl)) | with_reducible refine w_ipI ?_
  | with_reducible refine w_addI ?_ | with_reducible refine w_subI ?_ | with_reducible refine w_ltI ?_ | with_reducible refine w_leI ?_ | with_reducible refine w_gtI ?_ | with_reducible refine w_geI ?_
  | with_reducible refine w_eqI ?_ | with_reducible refine w_neI ?_ | with_reducible refine w_eqT ?_ | with_reducible refine w_neT ?_ | with_reducible refine w_inS ?_ | with_reducible refine w_ninS ?_
  | with_reducible refine w_absI ?_ | with_reducible refine w_intI ?_ | with_reducible refine w_maxI ?_ | with_reducible refine w_minI ?_
  | with_reducible refine w_for ?_ | with_reducible refine w_iR1 ?_ | with_reducible refine w_iR2 ?_ | with_reducible refine w_iStr ?_ | with_reducible refine w_strI ?_ | with_reducible refine w_iList ?_ | with_reducible refine w_iTup ?_
  | with_reducible refine w_bm ?_ | with_reducible refine w_bm0 ?_ | with_reducible refine w_t ?_ | with_reducible refine w_f ?_ | with_reducible refine w_nt ?_ | with_reducible refine w_nx ?_ | with_reducible refine w_rt ?_ | with_reducible refine w_bk ?_ | with_reducible refine w_ct ?_ | with_reducible refine w_nf ?_ | with_reducible refine w_lc ?_ | with_reducible refine w_yes ?_ | with_reducible refine w_neg ?_ | with_reducible refine w_intB ?_ | with_reducible refine w_fld ?_ | with_reducible refine w_setf ?_ | with_reducible refine w_faug ?_ | with_reducible refine w_meth ?_ | with_reducible refine w_bmS ?_ | with_reducible refine w_start ?_ | with_reducible refine w_revL ?_ | with_reducible refine w_iR3 ?_))
local macro_rules | `(tactic| walk_at "w") => `(tactic| (repeat (first | walk_at "w1" | dsimp (config := { proj := false }) only [List.set_cons_zero, List.set_cons_succ])))
section
variable {w : World} {K : PySem.W.Frag} {mg : Str → Option Value} {base : Heap}
local macro_rules | `(tactic| walk_at "v1") => `(tactic| (first
  | with_reducible refine w_seq ?_ | with_reducible refine w_asgN ?_ | with_reducible refine w_c ?_
  | ((with_reducible refine' w_var ?wv ?_); (case wv => exact rfl))
  | with_reducible refine w_op ?_ | with_reducible refine w_un ?_ | with_reducible refine w_next ?_ | with_reducible refine w_brk ?_ | with_reducible refine w_cnt ?_
  | with_reducible refine w_ifS ?_ | with_reducible refine w_if ?_ | with_reducible refine w_test ?_ | with_reducible refine w_tB ?_ | with_reducible refine w_bl ?_ | with_reducible refine w_blI ?_
  | with_reducible refine w_and ?_ | with_reducible refine w_or ?_ | with_reducible refine w_not ?_ | with_reducible refine w_andV ?_ | with_reducible refine w_orV ?_ | with_reducible refine w_notV ?_
  | with_reducible refine w_nil ?_ | with_reducible refine w_cons ?_ | with_reducible refine w_cb ?_ | with_reducible refine w_call ?_ | with_reducible refine w_callS ?_ | with_reducible refine w_chain ?_
  | with_reducible refine w_sl ?_ | with_reducible refine w_noPart ?_ | with_reducible refine w_part ?_ | with_reducible refine w_partI ?_
  | with_reducible refine w_ret ?_ | with_reducible refine w_retN ?_ | with_reducible refine w_drop ?_ | with_reducible refine w_asg ?_ | with_reducible refine w_gSub ?_
  | ((with_reducible refine' w_aug ?wv ?_); (case wv => exact rfl)) | with_reducible refine w_ipI ?_
  | with_reducible refine w_addI ?_ | with_reducible refine w_subI ?_ | with_reducible refine w_ltI ?_ | with_reducible refine w_leI ?_ | with_reducible refine w_gtI ?_ | with_reducible refine w_geI ?_
  | with_reducible refine w_eqI ?_ | with_reducible refine w_neI ?_ | with_reducible refine w_eqT ?_ | with_reducible refine w_neT ?_ | with_reducible refine w_inS ?_ | with_reducible refine w_ninS ?_
  | with_reducible refine w_absI ?_ | with_reducible refine w_intI ?_ | with_reducible refine w_maxI ?_ | with_reducible refine w_minI ?_
  | with_reducible refine w_for ?_ | with_reducible refine w_iR1 ?_ | with_reducible refine w_iR2 ?_ | with_reducible refine w_iStr ?_ | with_reducible refine w_strI ?_ | with_reducible refine w_iList ?_ | with_reducible refine w_iTup ?_
  | with_reducible refine w_bm ?_ | with_reducible refine w_bm0 ?_ | with_reducible refine w_t ?_ | with_reducible refine w_f ?_ | with_reducible refine w_nt ?_ | with_reducible refine w_nx ?_ | with_reducible refine w_rt ?_ | with_reducible refine w_bk ?_ | with_reducible refine w_ct ?_ | with_reducible refine w_nf ?_ | with_reducible refine w_lc ?_ | with_reducible refine w_yes ?_ | with_reducible refine w_neg ?_ | with_reducible refine w_intB ?_ | with_reducible refine w_fld ?_ | with_reducible refine w_setf ?_ | with_reducible refine w_faug ?_ | with_reducible refine w_meth ?_ | with_reducible refine w_bmS ?_ | with_reducible refine w_start ?_ | with_reducible refine w_revL ?_ | with_reducible refine w_iR3 ?_))
local macro_rules | `(tactic| walk_at "v") => `(tactic| (repeat (first | walk_at "v1" | dsimp (config := { proj := false }) only [List.set_cons_zero, List.set_cons_succ])))
local macro_rules | `(tactic| walk_at "d") => `(tactic| (repeat (first | exact eva_nil | refine eva_cons ?_ ?_ | exact ev_str | exact ev_int | exact ev_neg | refine ev_tup ?_ | (refine ev_var rfl ?_; assumption))))


/-- a kind, flat: none stands for 'to' -/
def flK (tb : Tb Kd) : Kd → List (Option Kd)
  | .to a b => none :: (flK tb a ++ flK tb b)
  | .fr w => [some (putK2 tb (.fr w))]
  | .nm w => [some (.nm w)]
def itD : Option Kd → PyData
  | none => .str (S wTO)
  | some k => k.d
def stF : List (Option Kd) → List Kd
  | [] => []
  | none :: c => match stF c with
    | a :: b :: r => .to a b :: r
    | r => r
  | some k :: c => k :: stF c
theorem stF_fl (tb : Tb Kd) : ∀ (k : Kd) (c : List (Option Kd)), stF (flK tb k ++ c) = putK2 tb k :: stF c
  | .to a b, c => by
    show stF (none :: (flK tb a ++ flK tb b ++ c)) = _
    rw [List.append_assoc]
    have e : stF (none :: (flK tb a ++ (flK tb b ++ c))) = (match stF (flK tb a ++ (flK tb b ++ c)) with | x :: y :: r => Kd.to x y :: r | r => r) := rfl
    rw [e, stF_fl tb a, stF_fl tb b]; rfl
  | .fr w, c => rfl
  | .nm w, c => rfl
theorem flK_len (tb : Tb Kd) : ∀ k : Kd, (flK tb k).length = k.sz
  | .to a b => by
    show (flK tb a ++ flK tb b).length + 1 = a.sz + b.sz + 1
    rw [List.length_append, flK_len tb a, flK_len tb b]
  | .fr w => rfl
  | .nm w => rfl
/-- the rows of a flat kind that can still be joined: each suffix of one -/
def okF : List (Option Kd) → Prop
  | [] => True
  | none :: c => 2 ≤ (stF c).length ∧ okF c
  | some _ :: c => okF c
theorem okF_fl (tb : Tb Kd) : ∀ (k : Kd) (c : List (Option Kd)), okF c → okF (flK tb k ++ c)
  | .to a b, c, h => by
    show okF (none :: (flK tb a ++ flK tb b ++ c))
    rw [List.append_assoc]
    refine ⟨?_, okF_fl tb a _ (okF_fl tb b _ h)⟩
    rw [stF_fl, stF_fl, List.length_cons, List.length_cons]; omega
  | .fr w, c, h => h
  | .nm w, c, h => h
def szs (ks : List Kd) : Nat := (ks.map Kd.sz).sum
theorem szs_app (a b : List Kd) : szs (a ++ b) = szs a + szs b := by unfold szs; rw [List.map_append, List.sum_append]
theorem szs_one (k : Kd) : szs [k] = k.sz := Nat.add_zero _
def waitF (tb : Tb Kd) (ks : List Kd) : List (Option Kd) := (ks.reverse.map (flK tb)).flatten
theorem waitF_snoc (tb : Tb Kd) (ks : List Kd) (k : Kd) : waitF tb (ks ++ [k]) = flK tb k ++ waitF tb ks := by unfold waitF; rw [List.reverse_append]; rfl
theorem drop_row' {α : Type} : ∀ {l : List α} {m : Nat} {o : α}, l[m]? = some o → l.drop m = o :: l.drop (m + 1)
  | a :: l, 0, o, h => by rw [List.drop_zero, List.drop_succ_cons, List.drop_zero]; cases h; rfl
  | a :: l, m + 1, o, h => by rw [List.drop_succ_cons, List.drop_succ_cons]; exact drop_row' (l := l) h
def TbOk (tb : Tb Kd) : Prop := ∀ w k, tb w = some k → k.ok ∧ k.sz ≤ 5
theorem put_ok {tb : Tb Kd} (h : TbOk tb) : ∀ k : Kd, k.ok → (putK2 tb k).ok ∧ (putK2 tb k).sz ≤ 5 * k.sz
  | .to a b, hk => by
    obtain ⟨a1, a2⟩ := put_ok h a hk.1
    obtain ⟨b1, b2⟩ := put_ok h b hk.2
    refine ⟨⟨a1, b1⟩, ?_⟩
    show (putK2 tb a).sz + (putK2 tb b).sz + 1 ≤ 5 * (a.sz + b.sz + 1)
    omega
  | .fr w, hk => by
    show ((tb w).getD (.fr w)).ok ∧ ((tb w).getD (.fr w)).sz ≤ 5 * 1
    cases e : tb w with
    | none => exact ⟨hk, by show 1 ≤ 5 * 1; omega⟩
    | some j => have := h w j e; exact ⟨this.1, by show j.sz ≤ 5 * 1; omega⟩
  | .nm w, hk => ⟨hk, by show 1 ≤ 5 * 1; omega⟩
def OkI (o : Option Kd) : Prop := ∀ k, o = some k → k.ok ∧ k.ht ≤ 100
theorem fl_ok {tb : Tb Kd} (h : TbOk tb) : ∀ k : Kd, k.ok → ∀ o ∈ flK tb k, OkI o
  | .to a b, hk, o, ho => by
    rcases List.mem_cons.mp ho with rfl | ho
    · intro k e; cases e
    rcases List.mem_append.mp ho with ho | ho
    · exact fl_ok h a hk.1 o ho
    · exact fl_ok h b hk.2 o ho
  | .fr w, hk, o, ho => by
    rw [List.mem_singleton.mp ho]
    intro k e
    cases e
    have z := put_ok h (.fr w) hk
    exact ⟨z.1, by have := (putK2 tb (.fr w)).ht_sz; have := z.2; have : Kd.sz (.fr w) = 1 := rfl; omega⟩
  | .nm w, hk, o, ho => by
    rw [List.mem_singleton.mp ho]
    intro k e
    cases e
    exact ⟨hk, by show 1 ≤ 100; omega⟩
theorem itD_sz {o : Option Kd} (h : OkI o) : Sz 180 (itD o) := by
  cases o with
  | none => exact ⟨by simp only [itD, PyData.canLay0, strOk_S cokTo], by simp [itD, PyData.depth]⟩
  | some k => obtain ⟨a, b⟩ := h k rfl; exact Kd.Sz a (by omega)
theorem itD_to (o : Option Kd) : PyData.eqv (itD o) (.str (S wTO)) = o.isNone := by
  cases o with
  | none => simp [itD, PyData.eqv]
  | some k => cases k <;> simp [itD, Kd.d, PyData.eqv]
def sp_law_kind_put : Sp := sp2 fun x y H Q _ => ∃ (k : Kd) (a : Addr) (kvs : List (Key × V)) (n : Nat) (tb : Tb Kd), TD H x k.d ∧ y = .ref a ∧ H a = some (.dK kvs) ∧ DOk H kvs n (fun w => (tb w).map Kd.d) ∧ TbOk tb ∧ k.ok ∧ k.sz ≤ 100 ∧ ∀ v H', Same H H' → TD H' v (putK2 tb k).d → Q v H'
theorem ok_law_kind_put (T : Txt w K mg) {fd : FuncData} (F : Fn_law_kind_put K fd) (hm : mg "_law_kind_put" = some (.ref (He.ga K "_law_kind_put")))  : CalX P w K mg base CX0 1 "_law_kind_put" sp_law_kind_put := by
  refine calx0 (k := 0) F hm sc_law_kind_put (b_law_kind_put F) (fun _ _ _ _ h => sp2_len h) (fun cdv A outer s H vs Q E hr h => ?_)
  obtain ⟨x0, x1, rfl, h⟩ := h
  refine ⟨_, (pss_cons (ps_set (i := 2) sc_law_kind_put.nd rfl (Or.inl rfl) (pe_lst pa_nil))
    (pss_cons (ps_set (i := 3) sc_law_kind_put.nd rfl (Or.inl rfl) (pe_lst (pa_cons (pv 0) pa_nil)))
    (Evl.pss_cut (ps_for PassesOwn.never rfl (pi_range1 (by rfl) T.f_range (pa_cons pe_int pa_nil)) (pg_name (i := 4) sc_law_kind_put.nd rfl (Or.inl rfl))
    (pss_cons (ps_if (pt_not (pt_truth (pv 3) (by intro _; rfl)))
    (pss_one ps_break)
    pss_nil)
    (pss_cons (ps_set (i := 5) sc_law_kind_put.nd rfl (Or.inl rfl) (pe_bm0 PySem.F.plainAttrs_list PySem.F.slot_list_pop PySem.F.type_list_pop mt_pop (pv 3)))
    (pss_one (ps_if (pt_cmpR op_eq (pe_ix ix_tup (pv 5) pe_int (fun _ _ => rfl)) pe_str (nomark _))
    (pss_cons (ps_expr (pe_bm PySem.F.plainAttrs_list PySem.F.slot_list_append PySem.F.type_list_append mt_append (pv 2) (pa_cons pe_str pa_nil)))
    (pss_cons (ps_expr (pe_bm PySem.F.plainAttrs_list PySem.F.slot_list_append PySem.F.type_list_append mt_append (pv 3) (pa_cons (pe_ix ix_tup (pv 5) pe_int (fun _ _ => rfl)) pa_nil)))
    (pss_one (ps_expr (pe_bm PySem.F.plainAttrs_list PySem.F.slot_list_append PySem.F.type_list_append mt_append (pv 3) (pa_cons (pe_ix ix_tup (pv 5) pe_int (fun _ _ => rfl)) pa_nil))))))
    (pss_one (ps_if (PW.pt (pw_and (pt_cmpR op_eq (pe_ix ix_tup (pv 5) pe_int (fun _ _ => rfl)) pe_str (nomark _)) (pw_and1 (pt_cmp (pc_din (hu_of hr) (pe_ix ix_tup (pv 5) pe_int (fun _ _ => rfl)) (pv 1))))))
    (pss_one (ps_expr (pe_bm PySem.F.plainAttrs_list PySem.F.slot_list_append PySem.F.type_list_append mt_append (pv 2) (pa_cons (pe_dget (hu_of hr) (pv 1) (pe_ix ix_tup (pv 5) pe_int (fun _ _ => rfl)) (fun _ _ => rfl)) pa_nil))))
    (pss_one (ps_expr (pe_bm PySem.F.plainAttrs_list PySem.F.slot_list_append PySem.F.type_list_append mt_append (pv 2) (pa_cons (pv 5) pa_nil)))))))))))
    (pss_cons (ps_set (i := 6) sc_law_kind_put.nd rfl (Or.inl rfl) (pe_lst pa_nil))
    (pss_cons (ps_for PassesOwn.never rfl (pi_list (pe_revL (pv 2))) (pg_name (i := 5) sc_law_kind_put.nd rfl (Or.inl rfl))
    (pss_one (ps_if (pt_cmpR (op_eqN hr) (pv 5) pe_str (nomark _))
    (pss_cons (ps_set (i := 7) sc_law_kind_put.nd rfl (Or.inl rfl) (pe_bm0 PySem.F.plainAttrs_list PySem.F.slot_list_pop PySem.F.type_list_pop mt_pop (pv 6)))
    (pss_cons (ps_set (i := 8) sc_law_kind_put.nd rfl (Or.inl rfl) (pe_bm0 PySem.F.plainAttrs_list PySem.F.slot_list_pop PySem.F.type_list_pop mt_pop (pv 6)))
    (pss_one (ps_expr (pe_bm PySem.F.plainAttrs_list PySem.F.slot_list_append PySem.F.type_list_append mt_append (pv 6) (pa_cons (pe_tup (pa_cons pe_str (pa_cons (pv 7) (pa_cons (pv 8) pa_nil)))) pa_nil))))))
    (pss_one (ps_expr (pe_bm PySem.F.plainAttrs_list PySem.F.slot_list_append PySem.F.type_list_append mt_append (pv 6) (pa_cons (pv 5) pa_nil)))))))
    (pss_one (ps_ret (pe_ix ix_list (pv 6) (pe_un un_neg pe_int) (fun _ _ => rfl))))))))), ?_⟩
  rw [show start ["kind", "table", "flat", "todo", "turn", "part", "stack", "first", "other"] [x0, x1] = [some x0, some x1, none, none, none, none, none, none, none] from rfl]
  have ec0 : Str.ofString "to" = S [116,111] := S_ofs (by decide +kernel)
  have ec1 : Str.ofString "free" = S [102,114,101,101] := S_ofs (by decide +kernel)
  rw [ec0, ec1]
  obtain ⟨k, a, kvs, n, tb, hx, rfl, ha, hd, htb, hko, hks, hQ⟩ := h
  try dsimp only [cxOf]
  walk_at "v"
  refine ev_lst (ds := []) (by walk_at "d") (fun fp H1 hf s1 df => ?_)
  walk_at "v"
  refine ev_lst (ds := [k].map Kd.d) (eva_cons (ev_var rfl (hx.tm (Tm.same s1))) eva_nil) (fun tp H2 ht s2 dt => ?_)
  walk_at "v"
  have s02 := s1.tr s2
  have hft : fp ≠ tp := fun z => by
    obtain ⟨_, e⟩ := df.lst
    rw [z] at e
    rw [e] at ht; cases ht
  have ht0 : H tp = none := s1.fresh ht
  refine w_mid (fun σ H' => ∃ (fl : List (Option Kd)) (v4 v5 : Option V), σ = [some x0, some (.ref a), some (.ref fp), some (.ref tp), v4, v5, none, none, none] ∧ Same H H' ∧ DL H' fp (fl.map itD) ∧ fl = flK tb k) ?_ ?_
  · walk_at "v"
    refine w_rg1 (by omega) (by omega) ?_
    refine for_range (fun i σ H' => ∃ (fl : List (Option Kd)) (ks : List Kd) (v4 v5 : Option V), σ = [some x0, some (.ref a), some (.ref fp), some (.ref tp), v4, v5, none, none, none] ∧ Same H H' ∧ DL H' fp (fl.map itD) ∧ DL H' tp (ks.map Kd.d) ∧ fl ++ waitF tb ks = flK tb k ∧ szs ks + i = k.sz ∧ ks.length ≤ i + 1 ∧ fl.length ≤ i ∧ (∀ j ∈ ks, j.ok))
      ⟨[], [k], _, _, rfl, s02, df.same s2, dt, by show [] ++ (flK tb k ++ []) = _; simp, by show k.sz + 0 + 0 = k.sz; omega, Nat.le_refl _, Nat.zero_le _, fun j hj => by rw [List.mem_singleton.mp hj]; exact hko⟩ ?_ ?_
    · rintro i σ G hi ⟨fl, ks, v4, v5, rfl, sg, dfl, dks, hw, hsz, hkl, hfl, hok⟩
      have hi : i < 110 := hi
      dsimp only [gName]
      walk_at "v"
      refine l_truth dks ?_
      rw [map_ne]
      by_cases he : ks = []
      · rw [decide_eq_false (by simp [he])]
        walk_at "v"
        refine ⟨fl, _, _, rfl, sg, dfl, ?_⟩
        rw [he] at hw
        rw [← hw]; simp [waitF]
      obtain ⟨ks, j, rfl⟩ := snoc_of he
      rw [decide_eq_true he]
      walk_at "v"
      refine l_ty dks ?_
      rw [List.map_append] at dks
      walk_at "v"
      refine l_pop dks (fun y G1 ty dks1 x1 => ?_)
      obtain ⟨_, edk⟩ := dks.lst
      have sg1 := sg.ex ht0 x1
      have dfl1 := dfl.ex x1 hft edk
      rw [waitF_snoc] at hw
      rw [szs_app, szs_one] at hsz
      rw [List.length_append] at hkl
      have hkl : ks.length + 1 ≤ i + 1 := hkl
      have hj : j.ok := hok j (by simp)
      have hok' : ∀ j ∈ ks, j.ok := fun j' h' => hok j' (List.mem_append_left _ h')
      have hjs := j.sz_pos
      have hlf : (fl.map itD).length ≤ 100000 := by rw [List.length_map]; omega
      have hlk : (ks.map Kd.d).length ≤ 100000 := by rw [List.length_map]; omega
      have hd1 : DOk G1 kvs n (fun w => (tb w).map Kd.d) := hd.tm (Tm.same sg1)
      have ha1 := sg1 _ _ ha
      walk_at "v"
      have leaf : ∀ {o : Option Kd} {H' : Hp} {u4 u5 : Option V}, flK tb j = [o] → j.sz = 1 → DL H' fp (fl.map itD ++ [itD o]) → Ex fp G1 H' →
          ∃ (fl : List (Option Kd)) (ks : List Kd) (v4 v5 : Option V), [some x0, some (.ref a), some (.ref fp), some (.ref tp), u4, u5, none, none, none] = [some x0, some (.ref a), some (.ref fp), some (.ref tp), v4, v5, none, none, none] ∧ Same H H' ∧ DL H' fp (fl.map itD) ∧ DL H' tp (ks.map Kd.d) ∧ fl ++ waitF tb ks = flK tb k ∧ szs ks + (i + 1) = k.sz ∧ ks.length ≤ i + 1 + 1 ∧ fl.length ≤ i + 1 ∧ (∀ j ∈ ks, j.ok) := fun {o H' u4 u5} e1 e2 d x => by
        obtain ⟨_, ef⟩ := dfl1.lst
        exact ⟨fl ++ [o], ks, u4, u5, rfl, sg1.ex (show H fp = none from hf) x, by rw [List.map_append]; exact d, dks1.ex x hft.symm ef, by rw [← hw, e1, List.append_assoc], by omega, by omega, by rw [List.length_append]; show fl.length + 1 ≤ i + 1; omega, hok'⟩
      cases j with
      | to b c =>
        have ty : TD G1 y (.tuple [.str (S wTO), b.d, c.d]) := ty
        refine t_ixS (n := 0) ty rfl ?_
        walk_at "v"
        rw [show decide (wTO = [116, 111]) = true from by decide]
        walk_at "v"
        refine l_ty dfl1 ?_
        walk_at "v"
        refine l_app dfl1 (.str _) (fun G2 dfl2 x2 => ?_) hlf
        obtain ⟨_, ef⟩ := dfl1.lst
        have dks2 := dks1.ex x2 hft.symm ef
        have ty2 := ty.tm (dfl1.tm_ex x2)
        walk_at "v"
        refine l_ty dks2 ?_
        walk_at "v"
        refine t_ix (n := 2) ty2 rfl (fun y2 t2 => ?_)
        walk_at "v"
        refine l_app dks2 t2 (fun G3 dks3 x3 => ?_) hlk
        have ty3 := ty2.tm (dks2.tm_ex x3)
        walk_at "v"
        refine l_ty dks3 ?_
        walk_at "v"
        refine t_ix (n := 1) ty3 rfl (fun y3 t3 => ?_)
        walk_at "v"
        refine l_app dks3 t3 (fun G4 dks4 x4 => ?_) (by rw [List.length_append, List.length_map]; show ks.length + 1 ≤ 100000; omega)
        walk_at "v"
        obtain ⟨_, e2⟩ := dks2.lst
        obtain ⟨_, e3⟩ := dks3.lst
        have dfl4 := (dfl2.ex x3 hft e2).ex x4 hft e3
        refine ⟨fl ++ [none], (ks ++ [c]) ++ [b], _, _, rfl, ((sg1.ex (show H fp = none from hf) x2).ex ht0 x3).ex ht0 x4, by rw [List.map_append]; exact dfl4, by rw [List.map_append, List.map_append]; exact dks4, ?_, ?_, ?_, by rw [List.length_append]; show fl.length + 1 ≤ i + 1; omega, fun j' h' => ?_⟩
        · rw [waitF_snoc, waitF_snoc, ← hw]
          show (fl ++ [none]) ++ (flK tb b ++ (flK tb c ++ waitF tb ks)) = fl ++ (none :: (flK tb b ++ flK tb c) ++ waitF tb ks)
          simp
        · rw [szs_app, szs_app, szs_one, szs_one]
          have hsz : szs ks + (b.sz + c.sz + 1) + i = k.sz := hsz
          omega
        · rw [List.length_append, List.length_append]; show ks.length + 1 + 1 ≤ i + 1 + 1; omega
        · rcases List.mem_append.mp h' with h' | h'
          · rcases List.mem_append.mp h' with h' | h'
            · exact hok' j' h'
            · rw [List.mem_singleton.mp h']; exact hj.2
          · rw [List.mem_singleton.mp h']; exact hj.1
      | nm w =>
        have ty' : TD G1 y (.tuple [.str (S wNAMED), .str (S w)]) := ty
        refine t_ixS (n := 0) ty' rfl ?_
        walk_at "v"
        rw [show decide (wNAMED = [116, 111]) = false from by decide]
        walk_at "v"
        refine t_ixS (n := 0) ty' rfl ?_
        walk_at "v"
        rw [show decide (wNAMED = [102, 114, 101, 101]) = false from by decide]
        walk_at "v"
        refine l_ty dfl1 ?_
        walk_at "v"
        refine l_app (d := itD (some (.nm w))) dfl1 ty (fun G2 dfl2 x2 => ?_) hlf
        walk_at "v"
        exact leaf rfl rfl dfl2 x2
      | fr w =>
        have ty' : TD G1 y (.tuple [.str (S wFREE), .str (S w)]) := ty
        refine t_ixS (n := 0) ty' rfl ?_
        walk_at "v"
        rw [show decide (wFREE = [116, 111]) = false from by decide]
        walk_at "v"
        refine t_ixS (n := 0) ty' rfl ?_
        walk_at "v"
        rw [show decide (wFREE = [102, 114, 101, 101]) = true from by decide]
        walk_at "v"
        refine w_din ?_
        walk_at "v"
        refine t_ixS (n := 1) ty' rfl ?_
        walk_at "v"
        refine k_in (k := Sum.inr (S w)) ha1 ?_
        rcases hd1.2.2 w with ⟨h1, h2⟩ | ⟨v, d, h1, h2, h3⟩
        · rw [h1]
          refine ⟨false, rfl, ?_⟩
          walk_at "v"
          refine l_ty dfl1 ?_
          walk_at "v"
          have e0 : putK2 tb (.fr w) = .fr w := by show (tb w).getD (.fr w) = _; rw [Option.map_eq_none_iff.mp h2]; rfl
          refine l_app (d := itD (some (putK2 tb (.fr w)))) dfl1 (by rw [e0]; exact ty) (fun G2 dfl2 x2 => ?_) hlf
          walk_at "v"
          exact leaf rfl rfl dfl2 x2
        · rw [h1]
          refine ⟨true, rfl, ?_⟩
          walk_at "v"
          refine l_ty dfl1 ?_
          walk_at "v"
          refine w_dget ?_
          walk_at "v"
          refine t_ixS (n := 1) ty' rfl ?_
          refine k_get (k := Sum.inr (S w)) ha1 h1 ?_
          walk_at "v"
          obtain ⟨kk, e1, e2⟩ := Option.map_eq_some_iff.mp h2
          have e0 : putK2 tb (.fr w) = kk := by show (tb w).getD (.fr w) = _; rw [e1]; rfl
          refine l_app (d := itD (some (putK2 tb (.fr w)))) dfl1 (by rw [e0]; show TD G1 v kk.d; rw [e2]; exact h3) (fun G2 dfl2 x2 => ?_) hlf
          walk_at "v"
          exact leaf rfl rfl dfl2 x2
    · rintro σ G ⟨fl, ks, v4, v5, rfl, sg, dfl, dks, hw, hsz, hkl, hfl, hok⟩
      exact absurd hsz (by omega)
  rintro σ H3 ⟨fl, v4, v5, rfl, s3, d3, hfl⟩
  walk_at "v"
  refine ev_lst (ds := []) (by walk_at "d") (fun sp H4 h4 s4 d4 => ?_)
  walk_at "v"
  obtain ⟨xs0, er0, tr0⟩ := d3.same s4
  refine ⟨fp, xs0, rfl, SqL.of er0, fun rp h5 => ?_⟩
  have s5 := same_upd (o := .lst xs0.reverse) h5
  have er := upd_same (H := H4) (a := rp) (o := .lst xs0.reverse)
  have tr := tr0.rev.tm (Tm.same s5)
  obtain ⟨xs, hxs⟩ : ∃ xs, xs = xs0.reverse := ⟨_, rfl⟩
  rw [← hxs] at s5 er tr ⊢
  obtain ⟨H5, hH5⟩ : ∃ H5, H5 = upd H4 rp (.lst xs) := ⟨_, rfl⟩
  rw [← hH5] at s5 er tr ⊢
  have lx : xs.length = fl.length := by rw [tr.len, List.length_reverse, List.length_map]
  have hlf : fl.length ≤ 100 := by rw [hfl, flK_len]; exact hks
  have hrs : rp ≠ sp := fun z => by obtain ⟨_, e⟩ := d4.lst; rw [z, e] at h5; cases h5
  refine w_lstI (SqL.of er) ?_
  have hokf : okF fl := by rw [hfl, ← List.append_nil (flK tb k)]; exact okF_fl tb k [] trivial
  have hoki : ∀ o ∈ fl, OkI o := by rw [hfl]; exact fl_ok htb k hko
  have okd : ∀ (l : List (Option Kd)) (i : Nat), okF l → okF (l.drop i) := fun l => by
    induction l with
    | nil => intro i _; rw [List.drop_nil]; trivial
    | cons o l ih =>
      intro i h
      cases i with
      | zero => exact h
      | succ i =>
        rw [List.drop_succ_cons]
        refine ih i ?_
        cases o with
        | none => exact h.2
        | some _ => exact h
  refine for_list (xs := xs) (fun i σ H' => ∃ (v5 v7 v8 : Option V), σ = [some x0, some (.ref a), some (.ref fp), some (.ref tp), v4, v5, some (.ref sp), v7, v8] ∧ Same H3 H' ∧ H' rp = some (.lst xs) ∧ TDs H' xs (fl.map itD).reverse ∧ DL H' sp ((stF (fl.drop (fl.length - i))).reverse.map Kd.d) ∧ (stF (fl.drop (fl.length - i))).length ≤ i)
    ⟨_, _, _, rfl, s4.tr s5, er, tr, by rw [Nat.sub_zero, List.drop_length]; exact d4.same s5, by rw [Nat.sub_zero, List.drop_length]; exact Nat.le_refl _⟩ (fun i σ H' _ h => by obtain ⟨_, _, _, _, _, h, _⟩ := h; exact SqL.of h) ?_ ?_
  · rintro i y σ G hy ⟨v5, v7, v8, rfl, sg, eg, tg, dg, hlg⟩
    have hi : i < fl.length := by rw [← lx]; exact (List.getElem?_eq_some_iff.mp hy).1
    obtain ⟨d, ed, td⟩ := tg.get' hy
    obtain ⟨m, hm⟩ : ∃ m, m = fl.length - (i + 1) := ⟨_, rfl⟩
    have hm1 : fl.length - i = m + 1 := by omega
    have hml : m < fl.length := by omega
    obtain ⟨o, ho⟩ : ∃ o, fl[m]? = some o := ⟨_, List.getElem?_eq_getElem hml⟩
    have edo : d = itD o := by
      rw [List.getElem?_reverse (by rw [List.length_map]; exact hi), List.length_map, show fl.length - 1 - i = m by omega, List.getElem?_map, ho] at ed
      exact (Option.some.inj ed).symm
    subst edo
    have hdr : fl.drop m = o :: fl.drop (m + 1) := drop_row' ho
    rw [hm1] at dg hlg
    rw [← hm]
    dsimp only [gName]
    walk_at "v"
    have hoi := hoki o (List.mem_of_getElem? ho)
    refine d_eq td (.str _) (itD_sz hoi) (itD_sz (o := none) (fun k e => by cases e)) ?_
    rw [itD_to]
    have hf2 := okd fl m hokf
    rw [hdr] at hf2 ⊢
    have sp0 : H3 sp = none := h4
    have hls : ((stF (fl.drop (m + 1))).reverse.map Kd.d).length ≤ 100000 := by rw [List.length_map, List.length_reverse]; omega
    cases o with
    | none =>
      rw [show (none : Option Kd).isNone = true from rfl]
      walk_at "v"
      obtain ⟨h2, _⟩ := hf2
      obtain ⟨b, c, r, hst⟩ : ∃ b c r, stF (fl.drop (m + 1)) = b :: c :: r := by
        cases e : stF (fl.drop (m + 1)) with
        | nil => rw [e] at h2; cases h2
        | cons b r =>
          cases r with
          | nil => rw [e] at h2; exact absurd h2 (by simp)
          | cons c r => exact ⟨b, c, r, rfl⟩
      have hst2 : stF (none :: fl.drop (m + 1)) = .to b c :: r := by show (match stF (fl.drop (m + 1)) with | a :: b :: r => Kd.to a b :: r | r => r) = _; rw [hst]
      rw [hst] at dg hlg
      rw [hst2]
      rw [List.reverse_cons, List.reverse_cons, List.map_append, List.map_append] at dg
      refine l_ty dg ?_
      walk_at "v"
      refine l_pop dg (fun z1 G1 tz1 dg1 x1 => ?_)
      walk_at "v"
      refine l_ty dg1 ?_
      walk_at "v"
      refine l_pop dg1 (fun z2 G2 tz2 dg2 x2 => ?_)
      walk_at "v"
      refine l_ty dg2 ?_
      walk_at "v"
      have tz1' := tz1.tm (dg1.tm_ex x2)
      refine ev_go (d := Kd.d (.to b c)) (by show Ev _ _ _ (.tuple [.str (S wTO), b.d, c.d]); walk_at "d") (fun z3 G3 s3' tz3 => ?_)
      walk_at "v"
      refine l_app (dg2.same s3') tz3 (fun G4 dg4 x4 => ?_) (by rw [List.length_map, List.length_reverse]; rw [List.length_cons, List.length_cons] at hlg; omega)
      walk_at "v"
      have sE : Same H3 G4 := ((((sg.ex sp0 x1).ex sp0 x2).tr s3').ex sp0 x4)
      refine ⟨_, _, _, rfl, sE, by rw [x4 rp hrs]; exact s3' _ _ (by rw [x2 rp hrs, x1 rp hrs]; exact eg), tg.tm ((((dg.tm_ex x1).tr (dg1.tm_ex x2)).tr (Tm.same s3')).tr ((dg2.same s3').tm_ex x4)), by rw [List.reverse_cons, List.map_append]; exact dg4, by rw [List.length_cons] at hlg ⊢; rw [List.length_cons] at hlg; omega⟩
    | some j =>
      rw [show (some j).isNone = false from rfl]
      walk_at "v"
      refine l_ty dg ?_
      walk_at "v"
      refine l_app dg td (fun G1 dg1 x1 => ?_) hls
      walk_at "v"
      refine ⟨_, _, _, rfl, sg.ex sp0 x1, by rw [x1 rp hrs]; exact eg, tg.tm (dg.tm_ex x1), ?_, ?_⟩
      · show DL G1 sp ((j :: stF (fl.drop (m + 1))).reverse.map Kd.d)
        rw [List.reverse_cons, List.map_append]; exact dg1
      · show (stF (fl.drop (m + 1))).length + 1 ≤ i + 1
        omega
  · rintro σ G ⟨v5, v7, v8, rfl, sg, eg, tg, dg, hlg⟩
    rw [lx, Nat.sub_self, List.drop_zero, hfl] at dg
    have e := stF_fl tb k []
    rw [List.append_nil] at e
    rw [e] at dg
    obtain ⟨ys, ey, tys⟩ := dg
    obtain ⟨z, rfl, tz⟩ := TDs.one tys
    walk_at "v"
    refine w_ixLm (xs := []) (SqL.of ey) ?_
    exact hQ z G (s3.tr sg) tz
end
end K01

namespace K01
open PySem PySem.Spec PyProof.Rows L2 SX K02
local macro_rules | `(tactic| walk_at "w1") => `(tactic| (first
  | with_reducible refine w_seq ?_ | with_reducible refine w_asgN ?_ | with_reducible refine w_c ?_
  | ((with_reducible refine' w_var ?wv ?_); (case wv => exact rfl))
  | with_reducible refine w_op ?_ | with_reducible refine w_un ?_ | with_reducible refine w_next ?_ | with_reducible refine w_brk ?_ | with_reducible refine w_cnt ?_
  | with_reducible refine w_ifS ?_ | with_reducible refine w_if ?_ | with_reducible refine w_test ?_ | with_reducible refine w_tB ?_ | with_reducible refine w_bl ?_ | with_reducible refine w_blI ?_
  | with_reducible refine w_and ?_ | with_reducible refine w_or ?_ | with_reducible refine w_not ?_ | with_reducible refine w_andV ?_ | with_reducible refine w_orV ?_ | with_reducible refine w_notV ?_
  | with_reducible refine w_nil ?_ | with_reducible refine w_cons ?_ | with_reducible refine w_cb ?_ | with_reducible refine w_call ?_ | with_reducible refine w_callS ?_ | with_reducible refine w_chain ?_
  | with_reducible refine w_tupN ?_ | with_reducible refine w_lstN ?_ | with_reducible refine w_sl ?_ | with_reducible refine w_noPart ?_ | with_reducible refine w_part ?_ | with_reducible refine w_partI ?_
  | with_reducible refine w_ret ?_ | with_reducible refine w_retN ?_ | with_reducible refine w_drop ?_ | with_reducible refine w_asg ?_ | with_reducible refine w_gSub ?_
  | ((with_reducible refine' w_aug ?wv ?_); (case wv => exact rfl)) | with_reducible refine w_ipI ?_
  | with_reducible refine w_addI ?_ | with_reducible refine w_subI ?_ | with_reducible refine w_ltI ?_ | with_reducible refine w_leI ?_ | with_reducible refine w_gtI ?_ | with_reducible refine w_geI ?_
  | with_reducible refine w_eqI ?_ | with_reducible refine w_neI ?_ | with_reducible refine w_eqT ?_ | with_reducible refine w_neT ?_ | with_reducible refine w_inS ?_ | with_reducible refine w_ninS ?_
  | with_reducible refine w_absI ?_ | with_reducible refine w_intI ?_ | with_reducible refine w_maxI ?_ | with_reducible refine w_minI ?_
  | with_reducible refine w_for ?_ | with_reducible refine w_iR1 ?_ | with_reducible refine w_iR2 ?_ | with_reducible refine w_iStr ?_ | with_reducible refine w_strI ?_ | with_reducible refine w_iList ?_ | with_reducible refine w_iTup ?_
  | with_reducible refine w_bm ?_ | with_reducible refine w_bm0 ?_ | with_reducible refine w_t ?_ | with_reducible refine w_f ?_ | with_reducible refine w_nt ?_ | with_reducible refine w_nx ?_ | with_reducible refine w_rt ?_ | with_reducible refine w_bk ?_ | with_reducible refine w_ct ?_ | with_reducible refine w_nf ?_ | with_reducible refine w_lc ?_ | with_reducible refine w_yes ?_ | with_reducible refine w_neg ?_ | with_reducible refine w_intB ?_ | with_reducible refine w_fld ?_ | with_reducible refine w_setf ?_ | with_reducible refine w_faug ?_ | with_reducible refine w_meth ?_ | with_reducible refine w_bmS ?_ | with_reducible refine w_start ?_ | with_reducible refine w_revL ?_ | with_reducible refine w_iR3 ?_))
local macro_rules | `(tactic| walk_at "w") => `(tactic| (repeat (first | walk_at "w1" | dsimp (config := { proj := false }) only [List.set_cons_zero, List.set_cons_succ])))
section
variable {w : World} {K : PySem.W.Frag} {mg : Str → Option Value} {base : Heap}
local macro_rules | `(tactic| walk_at "v1") => `(tactic| (first
  | with_reducible refine w_seq ?_ | with_reducible refine w_asgN ?_ | with_reducible refine w_c ?_
  | ((with_reducible refine' w_var ?wv ?_); (case wv => exact rfl))
  | with_reducible refine w_op ?_ | with_reducible refine w_un ?_ | with_reducible refine w_next ?_ | with_reducible refine w_brk ?_ | with_reducible refine w_cnt ?_
  | with_reducible refine w_ifS ?_ | with_reducible refine w_if ?_ | with_reducible refine w_test ?_ | with_reducible refine w_tB ?_ | with_reducible refine w_bl ?_ | with_reducible refine w_blI ?_
  | with_reducible refine w_and ?_ | with_reducible refine w_or ?_ | with_reducible refine w_not ?_ | with_reducible refine w_andV ?_ | with_reducible refine w_orV ?_ | with_reducible refine w_notV ?_
  | with_reducible refine w_nil ?_ | with_reducible refine w_cons ?_ | with_reducible refine w_cb ?_ | with_reducible refine w_call ?_ | with_reducible refine w_callS ?_ | with_reducible refine w_chain ?_
  | with_reducible refine w_sl ?_ | with_reducible refine w_noPart ?_ | with_reducible refine w_part ?_ | with_reducible refine w_partI ?_
  | with_reducible refine w_ret ?_ | with_reducible refine w_retN ?_ | with_reducible refine w_drop ?_ | with_reducible refine w_asg ?_ | with_reducible refine w_gSub ?_
  | ((with_reducible refine' w_aug ?wv ?_); (case wv => exact rfl)) | with_reducible refine w_ipI ?_
  | with_reducible refine w_addI ?_ | with_reducible refine w_subI ?_ | with_reducible refine w_ltI ?_ | with_reducible refine w_leI ?_ | with_reducible refine w_gtI ?_ | with_reducible refine w_geI ?_
  | with_reducible refine w_eqI ?_ | with_reducible refine w_neI ?_ | with_reducible refine w_eqT ?_ | with_reducible refine w_neT ?_ | with_reducible refine w_inS ?_ | with_reducible refine w_ninS ?_
  | with_reducible refine w_absI ?_ | with_reducible refine w_intI ?_ | with_reducible refine w_maxI ?_ | with_reducible refine w_minI ?_
  | with_reducible refine w_for ?_ | with_reducible refine w_iR1 ?_ | with_reducible refine w_iR2 ?_ | with_reducible refine w_iStr ?_ | with_reducible refine w_strI ?_ | with_reducible refine w_iList ?_ | with_reducible refine w_iTup ?_
  | with_reducible refine w_bm ?_ | with_reducible refine w_bm0 ?_ | with_reducible refine w_t ?_ | with_reducible refine w_f ?_ | with_reducible refine w_nt ?_ | with_reducible refine w_nx ?_ | with_reducible refine w_rt ?_ | with_reducible refine w_bk ?_ | with_reducible refine w_ct ?_ | with_reducible refine w_nf ?_ | with_reducible refine w_lc ?_ | with_reducible refine w_yes ?_ | with_reducible refine w_neg ?_ | with_reducible refine w_intB ?_ | with_reducible refine w_fld ?_ | with_reducible refine w_setf ?_ | with_reducible refine w_faug ?_ | with_reducible refine w_meth ?_ | with_reducible refine w_bmS ?_ | with_reducible refine w_start ?_ | with_reducible refine w_revL ?_ | with_reducible refine w_iR3 ?_))
local macro_rules | `(tactic| walk_at "v") => `(tactic| (repeat (first | walk_at "v1" | dsimp (config := { proj := false }) only [List.set_cons_zero, List.set_cons_succ])))
local macro_rules | `(tactic| walk_at "d") => `(tactic| (repeat (first | exact eva_nil | refine eva_cons ?_ ?_ | exact ev_str | exact ev_int | exact ev_neg | refine ev_tup ?_ | (refine ev_var rfl ?_; assumption))))


def vtD (e : Kd × Gt) : PyData := .tuple [e.1.d, (upT e.2).d]
def TtOk (tt : Tb (Kd × Gt)) : Prop := ∀ w k t, tt w = some (k, t) → GK k ∧ typed t [] = some k ∧ t.dep ≤ 130 ∧ t.nodes ≤ 500
def cutT (tt : Tb (Kd × Gt)) (es : List (List Nat × Kd)) : Tb (Kd × Gt) := fun w => (tt w).bind fun kt => if (w, kt.1) ∈ es then some kt else none
theorem cutT_ok {tt : Tb (Kd × Gt)} (h : TtOk tt) (es : List (List Nat × Kd)) : TtOk (cutT tt es) := fun w k t e => by
  unfold cutT at e
  cases z : tt w with
  | none => rw [z] at e; cases e
  | some kt =>
    rw [z] at e
    have e : (if (w, kt.1) ∈ es then some kt else none) = some (k, t) := e
    split at e
    · cases e; exact h w k t z
    · cases e
theorem cutT_nil (tt : Tb (Kd × Gt)) (w : List Nat) : cutT tt [] w = none := by
  unfold cutT
  cases tt w with
  | none => rfl
  | some kt => show (if (w, kt.1) ∈ [] then some kt else none) = none; rw [if_neg List.not_mem_nil]
theorem cutT_hit {tt : Tb (Kd × Gt)} {es : List (List Nat × Kd)} {w : List Nat} {k : Kd} {t : Gt} (e : tt w = some (k, t)) : cutT tt (es ++ [(w, k)]) = setT (cutT tt es) w (k, t) := by
  funext w'
  unfold setT
  by_cases z : w' = w
  · subst z
    rw [if_pos rfl]
    unfold cutT
    rw [e]
    show (if (w', k) ∈ es ++ [(w', k)] then some (k, t) else none) = _
    rw [if_pos (by simp)]
  · rw [if_neg z]
    unfold cutT
    cases tt w' with
    | none => rfl
    | some kt =>
      show (if (w', kt.1) ∈ es ++ [(w, k)] then some kt else none) = (if (w', kt.1) ∈ es then some kt else none)
      by_cases y : (w', kt.1) ∈ es
      · rw [if_pos y, if_pos (by simp [y])]
      · rw [if_neg y, if_neg (by simp [y, z])]
theorem cutT_miss {tt : Tb (Kd × Gt)} {es : List (List Nat × Kd)} {w : List Nat} {k : Kd} (e : ∀ t, tt w ≠ some (k, t)) : cutT tt (es ++ [(w, k)]) = cutT tt es := by
  funext w'
  unfold cutT
  cases h : tt w' with
  | none => rfl
  | some kt =>
    show (if (w', kt.1) ∈ es ++ [(w, k)] then some kt else none) = (if (w', kt.1) ∈ es then some kt else none)
    by_cases y : (w', kt.1) ∈ es
    · rw [if_pos y, if_pos (by simp [y])]
    · refine (if_neg ?_).trans (if_neg y).symm
      intro z
      rcases List.mem_append.mp z with z | z
      · exact y z
      · have := List.mem_singleton.mp z
        obtain ⟨k', t'⟩ := kt
        cases this
        exact e t' h
theorem mem_fold {α : Type} [DecidableEq α] {x : List Nat × Kd} : ∀ (l acc : List (List Nat × Kd)), (x ∈ acc ∨ x ∈ l) → x ∈ l.foldl addN acc
  | [], acc, h => h.elim id fun z => absurd z List.not_mem_nil
  | y :: l, acc, h => by
    rw [List.foldl_cons]
    refine mem_fold (α := α) l _ ?_
    rcases h with h | h
    · left; unfold addN; split; exact h; exact List.mem_append_left _ h
    · rcases List.mem_cons.mp h with rfl | h
      · left; unfold addN; split; assumption; simp
      · exact .inr h
theorem once_mem {g : Gt} {w : List Nat} {k : Kd} (h : Lf.var w k ∈ lvs1 g) : (w, k) ∈ onceT true g := by
  unfold onceT
  rw [pts_leaves]
  exact mem_fold (α := Nat) _ _ (.inr (List.mem_filterMap.mpr ⟨_, h, rfl⟩))
theorem sub_cut {tt : Tb (Kd × Gt)} {es : List (List Nat × Kd)} : ∀ (g : Gt) (l : Nat), (∀ w k, Lf.var w k ∈ lvs1 g → (w, k) ∈ es) → subT (putL (cutT tt es)) g l = subT (putL tt) g l
  | .app f a, l, h => by
    show Tr.app _ _ = Tr.app _ _
    rw [sub_cut f l fun w k z => h w k (List.mem_append_left _ z), sub_cut a l fun w k z => h w k (List.mem_append_right _ z)]
  | .lam j b, l, h => by
    show Tr.lam j _ = Tr.lam j _
    rw [sub_cut b (l + 1) h]
  | .tip x, l, h => by
    show putL (cutT tt es) l x = putL tt l x
    cases x with
    | bnd i => rfl
    | cst w k => rfl
    | var w k =>
      have hm := h w k (List.mem_singleton.mpr rfl)
      have e : cutT tt es w = (tt w).bind fun kt => if (w, kt.1) ∈ es then some kt else none := rfl
      simp only [putL]
      rw [e]
      cases tt w with
      | none => rfl
      | some kt =>
        obtain ⟨k', t⟩ := kt
        show (match (if (w, k') ∈ es then some (k', t) else none) with | some (k', v) => if k' = k then v else .tip (.var w k) | none => .tip (.var w k)) = if k' = k then t else .tip (.var w k)
        by_cases z : k' = k
        · subst z; rw [if_pos hm]
        · rw [if_neg z]
          split
          · rename_i heq
            split at heq
            · cases heq; rw [if_neg z]
            · cases heq
          · rfl
theorem put_lv (tt : Tb (Kd × Gt)) : ∀ (g : Gt) (l m : Nat), subT (putL tt) g l = subT (putL tt) g m
  | .app f a, l, m => by show Tr.app _ _ = Tr.app _ _; rw [put_lv tt f l m, put_lv tt a l m]
  | .lam j b, l, m => by show Tr.lam j _ = Tr.lam j _; rw [put_lv tt b (l + 1) (m + 1)]
  | .tip x, l, m => by cases x <;> rfl
def cq (tt : Tb (Kd × Gt)) : Gt → Nat
  | .tip x => (putL tt 0 x).nodes
  | _ => 1
def cqs (tt : Tb (Kd × Gt)) (es : List (Gt × Nat)) : Nat := (es.map fun e => cq tt e.1).sum
theorem cqs_app (tt : Tb (Kd × Gt)) (a b : List (Gt × Nat)) : cqs tt (a ++ b) = cqs tt a + cqs tt b := by unfold cqs; rw [List.map_append, List.sum_append]
theorem cqs_cons (tt : Tb (Kd × Gt)) (e : Gt × Nat) (b : List (Gt × Nat)) : cqs tt (e :: b) = cq tt e.1 + cqs tt b := rfl
theorem cq_put (tt : Tb (Kd × Gt)) : ∀ (g : Gt) (l : Nat), cqs tt (pts g l) = (subT (putL tt) g l).nodes
  | .app f a, l => by
    show cqs tt ((.app f a, l) :: (pts f l ++ pts a l)) = (subT (putL tt) f l).nodes + (subT (putL tt) a l).nodes + 1
    rw [cqs_cons, cqs_app, cq_put tt f, cq_put tt a]
    show 1 + _ = _
    omega
  | .lam j b, l => by
    show cqs tt ((.lam j b, l) :: pts b (l + 1)) = (subT (putL tt) b (l + 1)).nodes + 1
    rw [cqs_cons, cq_put tt b]
    show 1 + _ = _
    omega
  | .tip x, l => by
    show cq tt (.tip x) + 0 = (putL tt l x).nodes
    cases x <;> rfl
/-- what is asked of a leaf's variable -/
def hit (tt : Tb (Kd × Gt)) (w : List Nat) (k : Kd) : Prop := ∃ t, tt w = some (k, t)
theorem put_hit {tt : Tb (Kd × Gt)} {w : List Nat} {k : Kd} {t : Gt} {l : Nat} (e : tt w = some (k, t)) : putL tt l (.var w k) = t := by simp only [putL, e, if_pos]
theorem put_miss {tt : Tb (Kd × Gt)} {w : List Nat} {k : Kd} {l : Nat} (e : ∀ t, tt w ≠ some (k, t)) : putL tt l (.var w k) = .tip (.var w k) := by
  simp only [putL]
  cases h : tt w with
  | none => rfl
  | some kt =>
    obtain ⟨k', t⟩ := kt
    show (if k' = k then t else .tip (.var w k)) = _
    by_cases z : k' = k
    · subst z; exact absurd h (e t)
    · rw [if_neg z]
abbrev DT (H : Hp) (kvs : List (Key × V)) (n : Nat) (tt : Tb (Kd × Gt)) (f : Kd × Gt → PyData) : Prop := DOk H kvs n fun w => (tt w).map f
/-- reading the dict at a variable's name -/
theorem DT.at {H : Hp} {kvs : List (Key × V)} {n : Nat} {tt : Tb (Kd × Gt)} {f : Kd × Gt → PyData} (h : DT H kvs n tt f) (w : List Nat) :
    (valV kvs (Sum.inr (S w)) = none ∧ tt w = none) ∨ ∃ v k t, valV kvs (Sum.inr (S w)) = some v ∧ tt w = some (k, t) ∧ TD H v (f (k, t)) := by
  rcases h.2.2 w with ⟨h1, h2⟩ | ⟨v, d, h1, h2, h3⟩
  · exact .inl ⟨h1, Option.map_eq_none_iff.mp h2⟩
  · obtain ⟨⟨k, t⟩, e1, e2⟩ := Option.map_eq_some_iff.mp h2
    exact .inr ⟨v, k, t, h1, e1, by rw [e2]; exact h3⟩
def sp_rep (n : Nat) : Sp := sp2 fun x y H Q _ => ∃ (g : Gt) (a : Addr) (kvs : List (Key × V)) (m : Nat) (tt : Tb (Kd × Gt)) (l : Nat), TD H x (upT g).d ∧ y = .ref a ∧ H a = some (.dK kvs) ∧ DT H kvs m tt vtD ∧ TtOk tt ∧ g.gok ∧ g.dep ≤ n ∧
  ∀ v H', Same H H' → TD H' v (upT (subT (putL tt) g l)).d → Q v H'
theorem rep_step (T : Txt w K mg) {fd : FuncData} (F : Fn_replaced K fd) (hm : mg "_replaced" = some (.ref (He.ga K "_replaced"))) (n : Nat) (c_replaced : CalX P w K mg base CX0 (n + 1) "_replaced" (sp_rep n)) : CalX P w K mg base CX0 (n + 2) "_replaced" (sp_rep (n + 1)) := by
  refine calx0 (k := n + 1) F hm sc_replaced (b_replaced F) (fun _ _ _ _ h => sp2_len h) (fun cdv A outer s H vs Q E hr h => ?_)
  obtain ⟨x0, x1, rfl, h⟩ := h
  refine ⟨_, (pss_cons (ps_if (pt_cmpR op_eq (pe_ix ix_tup (pv 0) pe_int (fun _ _ => rfl)) pe_str (nomark _))
    (pss_one (ps_ret (pe_tup (pa_cons pe_str (pa_cons (pe_cx c_replaced hr (Nat.le_refl _) rfl pass0 (pa_cons (pe_ix ix_tup (pv 0) pe_int (fun _ _ => rfl)) (pa_cons (pv 1) pa_nil))) (pa_cons (pe_cx c_replaced hr (Nat.le_refl _) rfl pass0 (pa_cons (pe_ix ix_tup (pv 0) pe_int (fun _ _ => rfl)) (pa_cons (pv 1) pa_nil))) pa_nil))))))
    pss_nil)
    (pss_cons (ps_if (pt_cmpR op_eq (pe_ix ix_tup (pv 0) pe_int (fun _ _ => rfl)) pe_str (nomark _))
    (pss_one (ps_ret (pe_tup (pa_cons pe_str (pa_cons (pe_ix ix_tup (pv 0) pe_int (fun _ _ => rfl)) (pa_cons (pe_cx c_replaced hr (Nat.le_refl _) rfl pass0 (pa_cons (pe_ix ix_tup (pv 0) pe_int (fun _ _ => rfl)) (pa_cons (pv 1) pa_nil))) pa_nil))))))
    pss_nil)
    (pss_cons (ps_if (PW.pt (pw_and (pt_cmpR op_eq (pe_ix ix_tup (pv 0) pe_int (fun _ _ => rfl)) pe_str (nomark _)) (pw_and (pt_cmp (pc_din (hu_of hr) (pe_ix ix_tup (pv 0) pe_int (fun _ _ => rfl)) (pv 1))) (pw_and1 (pt_cmpR (op_eqN hr) (pe_ix ix_tup (pe_dget (hu_of hr) (pv 1) (pe_ix ix_tup (pv 0) pe_int (fun _ _ => rfl)) (fun _ _ => rfl)) pe_int (fun _ _ => rfl)) (pe_ix ix_tup (pv 0) pe_int (fun _ _ => rfl)) (nomark _))))))
    (pss_one (ps_ret (pe_ix ix_tup (pe_dget (hu_of hr) (pv 1) (pe_ix ix_tup (pv 0) pe_int (fun _ _ => rfl)) (fun _ _ => rfl)) pe_int (fun _ _ => rfl))))
    pss_nil)
    (pss_one (ps_ret (pv 0)))))), ?_⟩
  rw [show start ["part", "values"] [x0, x1] = [some x0, some x1] from rfl]
  have ec0 : Str.ofString "app" = S [97,112,112] := S_ofs (by decide +kernel)
  have ec1 : Str.ofString "lam" = S [108,97,109] := S_ofs (by decide +kernel)
  have ec2 : Str.ofString "var" = S [118,97,114] := S_ofs (by decide +kernel)
  rw [ec0, ec1, ec2]
  obtain ⟨g, a, kvs, m, tt, l, hx, rfl, ha, hd, htt, hg, hn, hQ⟩ := h
  try dsimp only [cxOf]
  walk_at "v"
  cases g with
  | app f b =>
    have hx : TD H x0 (.tuple [.str (S wAPP), (upT f).d, (upT b).d]) := hx
    have hdp : max f.dep b.dep + 1 ≤ n + 1 := hn
    refine t_ixS (n := 0) hx rfl ?_
    walk_at "v"
    rw [show decide (wAPP = [97, 112, 112]) = true from by decide]
    walk_at "v"
    refine w_tupN ?_
    walk_at "v"
    refine t_ix (n := 1) hx rfl (fun y1 ty1 => ?_)
    walk_at "v"
    refine ⟨_, _, rfl, f, a, kvs, m, tt, l, ty1, rfl, ha, hd, htt, hg.1, by omega, fun v1 H1 s1 t1 => ?_⟩
    walk_at "v"
    refine t_ix (n := 2) (hx.tm (Tm.same s1)) rfl (fun y2 ty2 => ?_)
    walk_at "v"
    refine ⟨_, _, rfl, b, a, kvs, m, tt, l, ty2, rfl, s1 _ _ ha, hd.tm (Tm.same s1), htt, hg.2, by omega, fun v2 H2 s2 t2 => ?_⟩
    walk_at "v"
    refine t_new (ds := [.str (S wAPP), (upT (subT (putL tt) f l)).d, (upT (subT (putL tt) b l)).d]) (.cons (.str _) (.cons (t1.tm (Tm.same s2)) (.cons t2 .nil))) (fun p3 H3 hp3 s3 t3 => ?_)
    exact hQ _ H3 ((s1.tr s2).tr s3) t3
  | lam j b =>
    have hx : TD H x0 (.tuple [.str (S wLAM), j.d, (upT b).d]) := hx
    have hdp : b.dep + 1 ≤ n + 1 := hn
    refine t_ixS (n := 0) hx rfl ?_
    walk_at "v"
    rw [show decide (wLAM = [97, 112, 112]) = false from by decide]
    walk_at "v"
    refine t_ixS (n := 0) hx rfl ?_
    walk_at "v"
    rw [show decide (wLAM = [108, 97, 109]) = true from by decide]
    walk_at "v"
    refine w_tupN ?_
    walk_at "v"
    refine t_ix (n := 1) hx rfl (fun y1 ty1 => ?_)
    walk_at "v"
    refine t_ix (n := 2) hx rfl (fun y2 ty2 => ?_)
    walk_at "v"
    refine ⟨_, _, rfl, b, a, kvs, m, tt, l + 1, ty2, rfl, ha, hd, htt, hg.2, by omega, fun v1 H1 s1 t1 => ?_⟩
    walk_at "v"
    refine t_new (ds := [.str (S wLAM), j.d, (upT (subT (putL tt) b (l + 1))).d]) (.cons (.str _) (.cons (ty1.tm (Tm.same s1)) (.cons t1 .nil))) (fun p3 H3 hp3 s3 t3 => ?_)
    exact hQ _ H3 (s1.tr s3) t3
  | tip x =>
    obtain ⟨rest, ed⟩ := gw_d (.tip x)
    have m12 := gw_tip x
    have hx' : TD H x0 (.tuple (.str (S (gw (.tip x))) :: rest)) := by rw [← ed]; exact hx
    refine t_ixS (n := 0) hx' rfl ?_
    walk_at "v"
    rw [show decide (gw (.tip x) = [97, 112, 112]) = false from decide_eq_false m12.1]
    walk_at "v"
    refine t_ixS (n := 0) hx' rfl ?_
    walk_at "v"
    rw [show decide (gw (.tip x) = [108, 97, 109]) = false from decide_eq_false m12.2]
    walk_at "v"
    refine t_ixS (n := 0) hx' rfl ?_
    walk_at "v"
    cases x with
    | bnd i =>
      rw [show decide (gw (.tip (.bnd i)) = [118, 97, 114]) = false from (show decide (wBOUND = [118, 97, 114]) = false by decide)]
      walk_at "v"
      exact hQ x0 H (Same.refl' H) hx
    | cst w' k' =>
      rw [show decide (gw (.tip (.cst w' k')) = [118, 97, 114]) = false from (show decide (wCONST = [118, 97, 114]) = false by decide)]
      walk_at "v"
      exact hQ x0 H (Same.refl' H) hx
    | var w' k' =>
      rw [show decide (gw (.tip (.var w' k')) = [118, 97, 114]) = true from (show decide (wVAR = [118, 97, 114]) = true by decide)]
      walk_at "v"
      have hx2 : TD H x0 (.tuple [.str (S wVAR), .str (S w'), k'.d]) := hx
      have no : (∀ t, tt w' ≠ some (k', t)) → Q x0 H := fun hm => hQ x0 H (Same.refl' H) (by show TD H x0 (upT (putL tt l (.var w' k'))).d; rw [put_miss hm]; exact hx)
      refine w_din ?_
      walk_at "v"
      refine t_ixS (n := 1) hx2 rfl ?_
      walk_at "v"
      refine k_in (k := Sum.inr (S w')) ha ?_
      rcases hd.at w' with ⟨h1, h2⟩ | ⟨v, k, t, h1, h2, h3⟩
      · rw [h1]
        refine ⟨false, rfl, ?_⟩
        walk_at "v"
        exact no fun t z => by rw [h2] at z; cases z
      rw [h1]
      refine ⟨true, rfl, ?_⟩
      walk_at "v"
      refine w_dget ?_
      walk_at "v"
      refine t_ixS (n := 1) hx2 rfl ?_
      refine k_get (k := Sum.inr (S w')) ha h1 ?_
      walk_at "v"
      have h3 : TD H v (.tuple [k.d, (upT t).d]) := h3
      refine t_ix (n := 0) h3 rfl (fun y1 ty1 => ?_)
      walk_at "v"
      refine t_ix (n := 2) hx2 rfl (fun y2 ty2 => ?_)
      walk_at "v"
      have hk := (htt w' k t h2).1
      refine d_eq ty1 ty2 (GK.sz180 hk) (GK.sz180 hg.2) ?_
      rw [Kd.eqv]
      walk_at "v"
      refine w_dec (fun hb => ?_) (fun hb => ?_)
      · subst hb
        walk_at "v"
        refine w_dget ?_
        walk_at "v"
        refine t_ixS (n := 1) hx2 rfl ?_
        refine k_get (k := Sum.inr (S w')) ha h1 ?_
        walk_at "v"
        refine t_ix (n := 1) h3 rfl (fun y3 ty3 => ?_)
        exact hQ y3 H (Same.refl' H) (by show TD H y3 (upT (putL tt l (.var w' k))).d; rw [put_hit h2]; exact ty3)
      · walk_at "v"
        exact no fun t' z => by rw [h2] at z; cases z; exact hb rfl

theorem rep_all (T : Txt w K mg) {fd : FuncData} (F : Fn_replaced K fd) (hm : mg "_replaced" = some (.ref (He.ga K "_replaced"))) : ∀ n, CalX P w K mg base CX0 (n + 1) "_replaced" (sp_rep n)
  | 0 => calx0 (k := 0) F hm sc_replaced (b_replaced F) (fun _ _ _ _ h => sp2_len h) (fun cdv A outer s H vs Q E hr h => by
      obtain ⟨x0, x1, rfl, g, _, _, _, _, _, _, _, _, _, _, _, hn, _⟩ := h
      have := g.dep_pos
      omega)
  | n + 1 => rep_step T F hm n (rep_all T F hm n)
end
end K01

namespace K01
open PySem PySem.Spec PyProof.Rows L2 SX K02
local macro_rules | `(tactic| walk_at "w1") => `(tactic| (first
  | with_reducible refine w_seq ?_ | with_reducible refine w_asgN ?_ | with_reducible refine w_c ?_
  | ((with_reducible refine' w_var ?wv ?_); (case wv => exact rfl))
  | with_reducible refine w_op ?_ | with_reducible refine w_un ?_ | with_reducible refine w_next ?_ | with_reducible refine w_brk ?_ | with_reducible refine w_cnt ?_
  | with_reducible refine w_ifS ?_ | with_reducible refine w_if ?_ | with_reducible refine w_test ?_ | with_reducible refine w_tB ?_ | with_reducible refine w_bl ?_ | with_reducible refine w_blI ?_
  | with_reducible refine w_and ?_ | with_reducible refine w_or ?_ | with_reducible refine w_not ?_ | with_reducible refine w_andV ?_ | with_reducible refine w_orV ?_ | with_reducible refine w_notV ?_
  | with_reducible refine w_nil ?_ | with_reducible refine w_cons ?_ | with_reducible refine w_cb ?_ | with_reducible refine w_call ?_ | with_reducible refine w_callS ?_ | with_reducible refine w_chain ?_
  | with_reducible refine w_tupN ?_ | with_reducible refine w_lstN ?_ | with_reducible refine w_sl ?_ | with_reducible refine w_noPart ?_ | with_reducible refine w_part ?_ | with_reducible refine w_partI ?_
  | with_reducible refine w_ret ?_ | with_reducible refine w_retN ?_ | with_reducible refine w_drop ?_ | with_reducible refine w_asg ?_ | with_reducible refine w_gSub ?_
  | ((with_reducible refine' w_aug ?wv ?_); (case wv => exact rfl)) | with_reducible refine w_ipI ?_
  | with_reducible refine w_addI ?_ | with_reducible refine w_subI ?_ | with_reducible refine w_ltI ?_ | with_reducible refine w_leI ?_ | with_reducible refine w_gtI ?_ | with_reducible refine w_geI ?_
  | with_reducible refine w_eqI ?_ | with_reducible refine w_neI ?_ | with_reducible refine w_eqT ?_ | with_reducible refine w_neT ?_ | with_reducible refine w_inS ?_ | with_reducible refine w_ninS ?_
  | with_reducible refine w_absI ?_ | with_reducible refine w_intI ?_ | with_reducible refine w_maxI ?_ | with_reducible refine w_minI ?_
  | with_reducible refine w_for ?_ | with_reducible refine w_iR1 ?_ | with_reducible refine w_iR2 ?_ | with_reducible refine w_iStr ?_ | with_reducible refine w_strI ?_ | with_reducible refine w_iList ?_ | with_reducible refine w_iTup ?_
  | with_reducible refine w_bm ?_ | with_reducible refine w_bm0 ?_ | with_reducible refine w_t ?_ | with_reducible refine w_f ?_ | with_reducible refine w_nt ?_ | with_reducible refine w_nx ?_ | with_reducible refine w_rt ?_ | with_reducible refine w_bk ?_ | with_reducible refine w_ct ?_ | with_reducible refine w_nf ?_ | with_reducible refine w_lc ?_ | with_reducible refine w_yes ?_ | with_reducible refine w_neg ?_ | with_reducible refine w_intB ?_ | with_reducible refine w_fld ?_ | with_reducible refine w_setf ?_ | with_reducible refine w_faug ?_ | with_reducible refine w_meth ?_ | with_reducible refine w_bmS ?_ | with_reducible refine w_start ?_ | with_reducible refine w_revL ?_ | with_reducible refine w_iR3 ?_))
local macro_rules | `(tactic| walk_at "w") => `(tactic| (repeat (first | walk_at "w1" | dsimp (config := { proj := false }) only [List.set_cons_zero, List.set_cons_succ])))
section
variable {w : World} {K : PySem.W.Frag} {mg : Str → Option Value} {base : Heap}
local macro_rules | `(tactic| walk_at "v1") => `(tactic| (first
  | with_reducible refine w_seq ?_ | with_reducible refine w_asgN ?_ | with_reducible refine w_c ?_
  | ((with_reducible refine' w_var ?wv ?_); (case wv => exact rfl))
  | with_reducible refine w_op ?_ | with_reducible refine w_un ?_ | with_reducible refine w_next ?_ | with_reducible refine w_brk ?_ | with_reducible refine w_cnt ?_
  | with_reducible refine w_ifS ?_ | with_reducible refine w_if ?_ | with_reducible refine w_test ?_ | with_reducible refine w_tB ?_ | with_reducible refine w_bl ?_ | with_reducible refine w_blI ?_
  | with_reducible refine w_and ?_ | with_reducible refine w_or ?_ | with_reducible refine w_not ?_ | with_reducible refine w_andV ?_ | with_reducible refine w_orV ?_ | with_reducible refine w_notV ?_
  | with_reducible refine w_nil ?_ | with_reducible refine w_cons ?_ | with_reducible refine w_cb ?_ | with_reducible refine w_call ?_ | with_reducible refine w_callS ?_ | with_reducible refine w_chain ?_
  | with_reducible refine w_sl ?_ | with_reducible refine w_noPart ?_ | with_reducible refine w_part ?_ | with_reducible refine w_partI ?_
  | with_reducible refine w_ret ?_ | with_reducible refine w_retN ?_ | with_reducible refine w_drop ?_ | with_reducible refine w_asg ?_ | with_reducible refine w_gSub ?_
  | ((with_reducible refine' w_aug ?wv ?_); (case wv => exact rfl)) | with_reducible refine w_ipI ?_
  | with_reducible refine w_addI ?_ | with_reducible refine w_subI ?_ | with_reducible refine w_ltI ?_ | with_reducible refine w_leI ?_ | with_reducible refine w_gtI ?_ | with_reducible refine w_geI ?_
  | with_reducible refine w_eqI ?_ | with_reducible refine w_neI ?_ | with_reducible refine w_eqT ?_ | with_reducible refine w_neT ?_ | with_reducible refine w_inS ?_ | with_reducible refine w_ninS ?_
  | with_reducible refine w_absI ?_ | with_reducible refine w_intI ?_ | with_reducible refine w_maxI ?_ | with_reducible refine w_minI ?_
  | with_reducible refine w_for ?_ | with_reducible refine w_iR1 ?_ | with_reducible refine w_iR2 ?_ | with_reducible refine w_iStr ?_ | with_reducible refine w_strI ?_ | with_reducible refine w_iList ?_ | with_reducible refine w_iTup ?_
  | with_reducible refine w_bm ?_ | with_reducible refine w_bm0 ?_ | with_reducible refine w_t ?_ | with_reducible refine w_f ?_ | with_reducible refine w_nt ?_ | with_reducible refine w_nx ?_ | with_reducible refine w_rt ?_ | with_reducible refine w_bk ?_ | with_reducible refine w_ct ?_ | with_reducible refine w_nf ?_ | with_reducible refine w_lc ?_ | with_reducible refine w_yes ?_ | with_reducible refine w_neg ?_ | with_reducible refine w_intB ?_ | with_reducible refine w_fld ?_ | with_reducible refine w_setf ?_ | with_reducible refine w_faug ?_ | with_reducible refine w_meth ?_ | with_reducible refine w_bmS ?_ | with_reducible refine w_start ?_ | with_reducible refine w_revL ?_ | with_reducible refine w_iR3 ?_))
local macro_rules | `(tactic| walk_at "v") => `(tactic| (repeat (first | walk_at "v1" | dsimp (config := { proj := false }) only [List.set_cons_zero, List.set_cons_succ])))
local macro_rules | `(tactic| walk_at "d") => `(tactic| (repeat (first | exact eva_nil | refine eva_cons ?_ ?_ | exact ev_str | exact ev_int | exact ev_neg | refine ev_tup ?_ | (refine ev_var rfl ?_; assumption))))


theorem DOk.exK {H H' : Hp} {a : Addr} {kv kvs : List (Key × V)} {n : Nat} {f : Tb PyData} (h : DOk H kvs n f) (e : H a = some (.dK kv)) (x : Ex a H H') : DOk H' kvs n f := h.tm (Tm.exK e x)
def ndD (e : Kd × Gt) : PyData := .int (e.2.nodes : Int)
theorem setT_map {α β : Type} (f : Tb α) (w : List Nat) (x : α) (g : α → β) : (fun w' => (setT f w x w').map g) = setT (fun w' => (f w').map g) w (g x) := by
  funext w'
  unfold setT
  by_cases z : w' = w
  · rw [if_pos z, if_pos z]; rfl
  · rw [if_neg z, if_neg z]
theorem DT.put {H : Hp} {kvs : List (Key × V)} {n : Nat} {tt : Tb (Kd × Gt)} {f : Kd × Gt → PyData} {w : List Nat} {k : Kd} {t : Gt} {v : V} (h : DT H kvs n tt f) (u : TD H v (f (k, t))) : DT H (putK kvs (Sum.inr (S w)) v) (n + 1) (setT tt w (k, t)) f := by
  unfold DT
  rw [setT_map]
  exact DOk.put h u
theorem DOk.mono {H : Hp} {kvs : List (Key × V)} {n m : Nat} {f : Tb PyData} (h : DOk H kvs n f) (z : n ≤ m) : DOk H kvs m f := ⟨Nat.le_trans h.1 z, h.2⟩
theorem fold_le : ∀ (l acc : List (List Nat × Kd)), (l.foldl addN acc).length ≤ acc.length + l.length
  | [], acc => Nat.le_refl _
  | y :: l, acc => by
    rw [List.foldl_cons]
    have h := fold_le l (addN acc y)
    have : (addN acc y).length ≤ acc.length + 1 := by unfold addN; split; omega; rw [List.length_append]; exact Nat.le_refl _
    rw [List.length_cons]; omega
theorem once_len (b : Bool) (g : Gt) : (onceT b g).length ≤ g.nodes := by
  have h := fold_le ((pts g 0).filterMap fun e => treeSel b e.1) []
  have h2 := List.length_filterMap_le (fun (e : Gt × Nat) => treeSel b e.1) (pts g 0)
  rw [pts_len] at h2
  unfold onceT
  exact Nat.le_trans h (by rw [List.length_nil]; omega)
theorem fold_all {P : List Nat × Kd → Prop} : ∀ (l acc : List (List Nat × Kd)), (∀ e ∈ acc, P e) → (∀ e ∈ l, P e) → ∀ e ∈ l.foldl addN acc, P e
  | [], acc, h, _, e, he => h e he
  | y :: l, acc, h, k, e, he => by
    rw [List.foldl_cons] at he
    refine fold_all l (addN acc y) (fun e' h' => ?_) (fun e' h' => k e' (List.mem_cons_of_mem _ h')) e he
    unfold addN at h'
    split at h'
    · exact h e' h'
    · rcases List.mem_append.mp h' with h' | h'
      · exact h e' h'
      · rw [List.mem_singleton.mp h']; exact k y List.mem_cons_self
theorem once_gk {b : Bool} {g : Gt} (h : g.gok) : ∀ e ∈ onceT b g, GK e.2 := by
  unfold onceT
  refine fold_all _ _ (fun e he => absurd he List.not_mem_nil) (fun e he => ?_)
  obtain ⟨p, hp, e1⟩ := List.mem_filterMap.mp he
  exact (selT_ok (pts_gok 0 h p hp) e1).2
def sp_put_terms (K : PySem.W.Frag) : Sp := sp2 fun x y H Q E => ∃ (g : Gt) (a : Addr) (kvs : List (Key × V)) (n : Nat) (tt : Tb (Kd × Gt)), TD H x (upT g).d ∧ y = .ref a ∧ H a = some (.dK kvs) ∧ DT H kvs n tt (fun e => (upT e.2).d) ∧ TtOk tt ∧ g.gok ∧ g.dep ≤ 130 ∧ g.nodes ≤ 500 ∧
  (400 < (subT (putL tt) g 0).nodes → ∀ d H', Same H H' → H' d = some (.xd [("limit", .int 400)]) → E (.ref (He.ga K "TooLarge")) (some d) H') ∧
  ((subT (putL tt) g 0).nodes ≤ 400 → ∀ u H', Same H H' → TD H' u (upT (subT (putL tt) g 0)).d → Q u H')
theorem ok_put_terms (T : Txt w K mg) {fd : FuncData} (F : Fn_put_terms K fd) (hm : mg "put_terms" = some (.ref (He.ga K "put_terms"))) (c_free_vars : CalX P w K mg base CX0 3 "free_vars" sp_free_vars)(c_measure : CalX P w K mg base CX0 1 "measure" sp_measure)(c_parts : CalX P w K mg base CX0 1 "_parts" sp_parts)(c_kind_within : CalX P w K mg base CX0 131 "kind_within" (sp_kw 130)) (c_replaced : CalX P w K mg base CX0 131 "_replaced" (sp_rep 130)) : CalX P w K mg base (L2.CX P w) 132 "put_terms" (sp_put_terms K) := by
  refine calxX (k := 131) F hm sc_put_terms (b_put_terms F) (fun _ _ _ _ h => sp2_len h) (fun cdv A outer s H vs Q E hr h => ?_)
  obtain ⟨x0, x1, rfl, h⟩ := h
  refine ⟨_, (pss_cons (ps_set (i := 2) sc_put_terms.nd rfl (Or.inl rfl) pe_dnewK)
    (pss_cons (ps_set (i := 3) sc_put_terms.nd rfl (Or.inl rfl) pe_dnewK)
    (pss_cons (ps_for (passes_of rfl) rfl (pi_tup (pe_cx c_free_vars hr (by decide) rfl pass0 (pa_cons (pv 0) pa_nil))) (pg_tup (by rfl) (pgs_cons (pg_name (i := 4) sc_put_terms.nd rfl (Or.inl rfl)) (pgs_cons (pg_name (i := 5) sc_put_terms.nd rfl (Or.inl rfl)) pgs_nil)))
    (pss_one (ps_if (PW.pt (pw_and (pt_cmp (pc_din (hu_of hr) (pv 4) (pv 1))) (pw_and1 (pt_cmpR (op_eqN hr) (pe_cx c_kind_within hr (by decide) rfl pass0 (pa_cons (pe_dget (hu_of hr) (pv 1) (pv 4) (fun _ _ => rfl)) (pa_cons (pe_tup pa_nil) pa_nil))) (pv 5) (nomark _)))))
    (pss_cons (ps_asg (pe_tup (pa_cons (pv 5) (pa_cons (pe_dget (hu_of hr) (pv 1) (pv 4) (fun _ _ => rfl)) pa_nil))) (pg_sub (pv 2) (pv 4) (set_dict (hu_of hr))))
    (pss_one (ps_asg (pe_ix ix_tup (pe_cx c_measure hr (by decide) rfl pass0 (pa_cons (pe_dget (hu_of hr) (pv 1) (pv 4) (fun _ _ => rfl)) pa_nil)) pe_int (fun _ _ => rfl)) (pg_sub (pv 3) (pv 4) (set_dict (hu_of hr))))))
    pss_nil)))
    (pss_cons (ps_set (i := 6) sc_put_terms.nd rfl (Or.inl rfl) pe_int)
    (pss_cons (ps_for (passes_of rfl) rfl (pi_list (pe_cx c_parts hr (by decide) rfl pass0 (pa_cons (pv 0) pa_nil))) (pg_tup (by rfl) (pgs_cons (pg_name (i := 7) sc_put_terms.nd rfl (Or.inl rfl)) (pgs_cons (pg_name (i := 8) sc_put_terms.nd rfl (Or.inl rfl)) pgs_nil)))
    (pss_one (ps_if (PW.pt (pw_and (pt_cmpR op_eq (pe_ix ix_tup (pv 7) pe_int (fun _ _ => rfl)) pe_str (nomark _)) (pw_and (pt_cmp (pc_din (hu_of hr) (pe_ix ix_tup (pv 7) pe_int (fun _ _ => rfl)) (pv 2))) (pw_and1 (pt_cmpR (op_eqN hr) (pe_ix ix_tup (pe_dget (hu_of hr) (pv 2) (pe_ix ix_tup (pv 7) pe_int (fun _ _ => rfl)) (fun _ _ => rfl)) pe_int (fun _ _ => rfl)) (pe_ix ix_tup (pv 7) pe_int (fun _ _ => rfl)) (nomark _))))))
    (pss_one (ps_aug (i := 6) sc_put_terms.nd rfl (Or.inl rfl) (pe_dget (hu_of hr) (pv 3) (pe_ix ix_tup (pv 7) pe_int (fun _ _ => rfl)) (fun _ _ => rfl)) ip_add))
    (pss_one (ps_aug (i := 6) sc_put_terms.nd rfl (Or.inl rfl) pe_int ip_add)))))
    (pss_cons (ps_if (pt_cmpR op_gtI (pv 6) (pe_gv T.v_MAX_NODES) (nomark _))
    (pss_one (ps_raiseH rfl T.h_TooLarge (j_TooLarge _) T.n_TooLarge okH hr (takes_of rfl rfl rfl rfl) (pa_cons (pe_gv T.v_MAX_NODES) pa_nil) rfl))
    pss_nil)
    (pss_one (ps_ret (pe_cx c_replaced hr (by decide) rfl pass0 (pa_cons (pv 0) (pa_cons (pv 2) pa_nil))))))))))), ?_⟩
  rw [show start ["term", "table", "values", "nodes", "name", "kind", "many", "part", "_"] [x0, x1] = [some x0, some x1, none, none, none, none, none, none, none] from rfl]
  have ec0 : Str.ofString "var" = S [118,97,114] := S_ofs (by decide +kernel)
  rw [ec0]
  obtain ⟨g, a, kvs, n, tt, hx, rfl, ha, hd, htt, hg, hdp, hng, hE, hQ⟩ := h
  try dsimp only [cxOf]
  walk_at "v"
  refine w_dnew (fun va H1 hv0 s1 e1 => ?_)
  walk_at "v"
  refine w_dnew (fun na H2 hn0 s2 e2 => ?_)
  walk_at "v"
  have s02 := s1.tr s2
  have hn00 : H na = none := s1.fresh hn0
  have hav : a ≠ va := fun z => by rw [z, hv0] at ha; cases ha
  have han : a ≠ na := fun z => by rw [z, hn00] at ha; cases ha
  have hvn : va ≠ na := fun z => by rw [z, hn0] at e1; cases e1
  refine ⟨_, rfl, g, hx.tm (Tm.same s02), hg, by omega, fun u H3 s3 tu => ?_⟩
  have s03 := s02.tr s3
  walk_at "v"
  obtain ⟨ua, xs, rfl, hu, txs⟩ := tu.tuple
  obtain ⟨es, hes⟩ : ∃ es, es = onceT true g := ⟨_, rfl⟩
  rw [← hes] at txs
  have lx : xs.length = es.length := by rw [txs.len, List.length_map]
  have lel : es.length ≤ 500 := by rw [hes]; have := once_len true g; omega
  have egk : ∀ e ∈ es, GK e.2 := by rw [hes]; exact once_gk hg
  refine w_tupI (SqT.of hu) ?_
  refine for_tup (xs := xs) (fun i σ H' => ∃ (kv1 kv2 : List (Key × V)) (v4 v5 : Option V), σ = [some x0, some (.ref a), some (.ref va), some (.ref na), v4, v5, none, none, none] ∧ Same H H' ∧ Tm H3 H' ∧ H' va = some (.dK kv1) ∧ H' na = some (.dK kv2) ∧ DT H' kv1 i (cutT tt (es.take i)) vtD ∧ DT H' kv2 i (cutT tt (es.take i)) ndD)
    ⟨[], [], _, _, rfl, s03, Tm.refl _, s3 _ _ (s2 _ _ e1), s3 _ _ e2, DOk.nil.ext fun w => by rw [List.take_zero, cutT_nil]; rfl, DOk.nil.ext fun w => by rw [List.take_zero, cutT_nil]; rfl⟩ (fun i σ H' _ h => by obtain ⟨_, _, _, _, _, _, h, _⟩ := h; exact SqT.of (h _ _ hu)) ?_ ?_
  · rintro i x σ G hi ⟨kv1, kv2, v4, v5, rfl, sg, tg, ev, en, dv, dn⟩
    obtain ⟨d, ed, td⟩ := (txs.tm tg).get' hi
    have hil : i < es.length := by rw [← lx]; exact (List.getElem?_eq_some_iff.mp hi).1
    obtain ⟨w, k, ee, rfl⟩ : ∃ w k, es[i]? = some (w, k) ∧ d = pairD (w, k) := by
      rw [List.getElem?_map] at ed
      cases z : es[i]? with
      | none => rw [z] at ed; cases ed
      | some e => rw [z] at ed; exact ⟨e.1, e.2, rfl, (Option.some.inj ed).symm⟩
    have hk := egk _ (List.mem_of_getElem? ee)
    have hk : GK k := hk
    have htk : es.take (i + 1) = es.take i ++ [(w, k)] := by rw [List.take_add_one, ee]; rfl
    obtain ⟨q2, qs, rfl, hq2, tqs⟩ := td.tuple
    obtain ⟨y, z, rfl, ty, tz⟩ := tqs.two
    rw [ty.txt] at hq2
    have tz : TD G z k.d := tz
    refine w_un2 rfl hq2 ?_
    walk_at "v"
    have miss : ∀ {G' : Hp} {u4 u5 : Option V}, (∀ t, tt w ≠ some (k, t)) → Same G G' → ∃ (kv1 kv2 : List (Key × V)) (v4 v5 : Option V), [some x0, some (.ref a), some (.ref va), some (.ref na), u4, u5, none, none, none] = [some x0, some (.ref a), some (.ref va), some (.ref na), v4, v5, none, none, none] ∧ Same H G' ∧ Tm H3 G' ∧ G' va = some (.dK kv1) ∧ G' na = some (.dK kv2) ∧ DT G' kv1 (i + 1) (cutT tt (es.take (i + 1))) vtD ∧ DT G' kv2 (i + 1) (cutT tt (es.take (i + 1))) ndD := fun {G' u4 u5} hm s => by
      rw [htk, cutT_miss hm]
      exact ⟨kv1, kv2, u4, u5, rfl, sg.tr s, tg.tr (Tm.same s), s _ _ ev, s _ _ en, DOk.mono (DOk.tm dv (Tm.same s)) (by omega), DOk.mono (DOk.tm dn (Tm.same s)) (by omega)⟩
    refine w_din ?_
    walk_at "v"
    have ga := sg _ _ ha
    have gd : DT G kvs n tt (fun e => (upT e.2).d) := hd.tm (Tm.same sg)
    refine k_in (k := Sum.inr (S w)) ga ?_
    rcases gd.at w with ⟨h1, h2⟩ | ⟨v, k', t, h1, h2, h3⟩
    · rw [h1]
      refine ⟨false, rfl, ?_⟩
      walk_at "v"
      exact miss (fun t z => by rw [h2] at z; cases z) (Same.refl' G)
    rw [h1]
    refine ⟨true, rfl, ?_⟩
    obtain ⟨q1, q3, q4, q5⟩ := htt w k' t h2
    have h3 : TD G v (upT t).d := h3
    walk_at "v"
    refine w_dget ?_
    walk_at "v"
    refine k_get (k := Sum.inr (S w)) ga h1 ?_
    walk_at "v"
    refine w_tupN ?_
    walk_at "v"
    refine t_new .nil (fun p4 G4 hp4 s4 t4 => ?_)
    walk_at "v"
    refine ⟨_, _, rfl, t, [], k', h3.tm (Tm.same s4), t4, q3, q4, by show 0 + 130 ≤ 1000; omega, fun u5 G5 s5 t5 => ?_⟩
    walk_at "v"
    have s45 := s4.tr s5
    refine d_eq t5 (tz.tm (Tm.same s45)) (GK.sz180 q1) (GK.sz180 hk) ?_
    rw [Kd.eqv]
    walk_at "v"
    refine w_dec (fun hb => ?_) (fun hb => ?_)
    · subst hb
      walk_at "v"
      refine w_tupN ?_
      walk_at "v"
      refine w_dget ?_
      walk_at "v"
      refine k_get (k := Sum.inr (S w)) (s45 _ _ ga) h1 ?_
      walk_at "v"
      have h35 := h3.tm (Tm.same s45)
      refine t_new (ds := [k'.d, (upT t).d]) (.cons (tz.tm (Tm.same s45)) (.cons h35 .nil)) (fun p6 G6 hp6 s6 t6 => ?_)
      walk_at "v"
      have s46 := s45.tr s6
      have ev6 := s46 _ _ ev
      refine k_put (k := Sum.inr (S w)) ev6 (by have := dv.1; omega) (fun G7 e7 x7 => ?_)
      walk_at "v"
      have t67 := Tm.exK ev6 x7
      have ga7 : G7 a = some (.dK kvs) := by rw [x7 a hav]; exact s46 _ _ ga
      have dv7 : DT G7 (putK kv1 (Sum.inr (S w)) (.ref p6)) (i + 1) (cutT tt (es.take (i + 1))) vtD := by
        rw [htk, cutT_hit h2]
        exact DT.put (dv.tm ((Tm.same s46).tr t67)) (t6.tm t67)
      have dn7 := dn.tm ((Tm.same s46).tr t67)
      have en7 : G7 na = some (.dK kv2) := by rw [x7 na hvn.symm]; exact s46 _ _ en
      refine w_dget ?_
      walk_at "v"
      refine k_get (k := Sum.inr (S w)) ga7 h1 ?_
      walk_at "v"
      refine ⟨_, rfl, t, h35.tm ((Tm.same s6).tr t67), by omega, fun u8 G8 s8 t8 => ?_⟩
      walk_at "v"
      refine t_ixI (n := 0) t8 rfl ?_
      walk_at "v"
      refine k_put (k := Sum.inr (S w)) (s8 _ _ en7) (by have := dn.1; omega) (fun G9 e9 x9 => ?_)
      have t89 := Tm.exK (s8 _ _ en7) x9
      refine ⟨_, _, _, _, rfl, (((sg.tr s46).ex hv0 x7).tr s8).ex hn00 x9, ((((tg.tr (Tm.same s46)).tr t67).tr (Tm.same s8)).tr t89), by rw [x9 va hvn]; exact s8 _ _ e7, e9, dv7.tm ((Tm.same s8).tr t89), ?_⟩
      rw [htk, cutT_hit h2]
      exact DT.put (dn7.tm ((Tm.same s8).tr t89)) (.int _)
    · walk_at "v"
      exact miss (fun t' z => by rw [h2] at z; cases z; exact hb rfl) s45
  · rintro σ G ⟨kv1, kv2, v4, v5, rfl, sg, tg, ev, en, dv, dn⟩
    rw [lx, List.take_length] at dv dn
    obtain ⟨tv, htv⟩ : ∃ tv, tv = cutT tt es := ⟨_, rfl⟩
    rw [← htv] at dv dn
    have hvok : TtOk tv := by rw [htv]; exact cutT_ok htt es
    have hsub : subT (putL tv) g 0 = subT (putL tt) g 0 := by rw [htv]; exact sub_cut g 0 fun w k z => by rw [hes]; exact once_mem z
    walk_at "v"
    refine ⟨_, rfl, g, hx.tm (Tm.same sg), by omega, fun q H5 hq s5 d5 => ?_⟩
    walk_at "v"
    obtain ⟨ys, eq, tq⟩ := d5
    refine w_lstI (SqL.of eq) ?_
    have ly : ys.length = g.nodes := by rw [tq.len]; unfold wm; rw [List.length_map, pts_len]
    have ev5 := s5 _ _ ev
    have en5 := s5 _ _ en
    have dv5 : DT H5 kv1 es.length tv vtD := dv.tm (Tm.same s5)
    have dn5 : DT H5 kv2 es.length tv ndD := dn.tm (Tm.same s5)
    refine for_list (xs := ys) (fun i σ H' => ∃ (many : Nat) (v7 v8 : Option V), σ = [some x0, some (.ref a), some (.ref va), some (.ref na), v4, v5, some (.int (many : Int)), v7, v8] ∧ H' = H5 ∧ many = cqs tv ((pts g 0).take i))
      ⟨0, _, _, rfl, rfl, rfl⟩ (fun i σ H' _ h => by obtain ⟨_, _, _, _, h, _⟩ := h; rw [h]; exact SqL.of eq) ?_ ?_
    · rintro i x σ G hi ⟨many, v7, v8, rfl, rfl, hmany⟩
      obtain ⟨d, ed, td⟩ := tq.get' hi
      obtain ⟨e, ee, rfl⟩ : ∃ e, (pts g 0)[i]? = some e ∧ d = .tuple [(upT e.1).d, .int (e.2 : Int)] := by
        unfold wm at ed
        rw [List.getElem?_map] at ed
        cases z : (pts g 0)[i]? with
        | none => rw [z] at ed; cases ed
        | some e => rw [z] at ed; exact ⟨e, rfl, (Option.some.inj ed).symm⟩
      have gi := pts_gok 0 hg _ (List.mem_of_getElem? ee)
      obtain ⟨t, l⟩ := e
      have gi : t.gok := gi
      have hnx : cqs tv ((pts g 0).take (i + 1)) = many + cq tv t := by
        rw [List.take_add_one, ee, cqs_app, ← hmany]; rfl
      obtain ⟨q2, qs, rfl, hq2, tqs⟩ := td.tuple
      obtain ⟨y, z, rfl, ty, tz⟩ := tqs.two
      refine w_un2 rfl hq2 ?_
      walk_at "v"
      have ty : TD G y (upT t).d := ty
      have one : cq tv t = 1 → ∀ {u7 u8 : Option V}, ∃ (many' : Nat) (v7 v8 : Option V), [some x0, some (.ref a), some (.ref va), some (.ref na), v4, v5, some (.int ((many : Int) + 1)), u7, u8] = [some x0, some (.ref a), some (.ref va), some (.ref na), v4, v5, some (.int (many' : Int)), v7, v8] ∧ G = G ∧ many' = cqs tv ((pts g 0).take (i + 1)) := fun hb {u7 u8} =>
        ⟨many + 1, u7, u8, by rw [show ((many : Int) + 1) = ((many + 1 : Nat) : Int) by omega], rfl, by rw [hnx, hb]⟩
      cases t with
      | app f b =>
        rw [show (upT (.app f b)).d = .tuple [.str (S wAPP), (upT f).d, (upT b).d] from rfl] at ty
        refine t_ixS (n := 0) ty rfl ?_
        walk_at "v"
        rw [show decide (wAPP = [118, 97, 114]) = false from by decide]
        walk_at "v"
        exact one rfl
      | lam j b =>
        rw [show (upT (.lam j b)).d = .tuple [.str (S wLAM), j.d, (upT b).d] from rfl] at ty
        refine t_ixS (n := 0) ty rfl ?_
        walk_at "v"
        rw [show decide (wLAM = [118, 97, 114]) = false from by decide]
        walk_at "v"
        exact one rfl
      | tip x =>
        cases x with
        | bnd j =>
          have ty : TD G y (.tuple [.str (S wBOUND), .int (j : Int)]) := ty
          refine t_ixS (n := 0) ty rfl ?_
          walk_at "v"
          rw [show decide (wBOUND = [118, 97, 114]) = false from by decide]
          walk_at "v"
          exact one rfl
        | cst w' k' =>
          have ty : TD G y (.tuple [.str (S wCONST), .str (S w'), k'.d]) := ty
          refine t_ixS (n := 0) ty rfl ?_
          walk_at "v"
          rw [show decide (wCONST = [118, 97, 114]) = false from by decide]
          walk_at "v"
          exact one rfl
        | var w' k' =>
          have ty : TD G y (.tuple [.str (S wVAR), .str (S w'), k'.d]) := ty
          have gi : isName w' = true ∧ GK k' := gi
          refine t_ixS (n := 0) ty rfl ?_
          walk_at "v"
          rw [show decide (wVAR = [118, 97, 114]) = true from by decide]
          walk_at "v"
          have no : (∀ t, tv w' ≠ some (k', t)) → cq tv (.tip (.var w' k')) = 1 := fun hm => by show (putL tv 0 (.var w' k')).nodes = 1; rw [put_miss hm]; rfl
          refine w_din ?_
          walk_at "v"
          refine t_ixS (n := 1) ty rfl ?_
          walk_at "v"
          refine k_in (k := Sum.inr (S w')) ev5 ?_
          rcases dv5.at w' with ⟨h1, h2⟩ | ⟨v, k, t, h1, h2, h3⟩
          · rw [h1]
            refine ⟨false, rfl, ?_⟩
            walk_at "v"
            exact one (no fun t z => by rw [h2] at z; cases z)
          rw [h1]
          refine ⟨true, rfl, ?_⟩
          walk_at "v"
          refine w_dget ?_
          walk_at "v"
          refine t_ixS (n := 1) ty rfl ?_
          walk_at "v"
          refine k_get (k := Sum.inr (S w')) ev5 h1 ?_
          walk_at "v"
          have h3 : TD G v (.tuple [k.d, (upT t).d]) := h3
          refine t_ix (n := 0) h3 rfl (fun y1 ty1 => ?_)
          walk_at "v"
          refine t_ix (n := 2) ty rfl (fun y2 ty2 => ?_)
          walk_at "v"
          have hk := (hvok w' k t h2).1
          refine d_eq ty1 ty2 (GK.sz180 hk) (GK.sz180 gi.2) ?_
          rw [Kd.eqv]
          walk_at "v"
          refine w_dec (fun hb => ?_) (fun hb => ?_)
          · subst hb
            walk_at "v"
            refine w_dget ?_
            walk_at "v"
            refine t_ixS (n := 1) ty rfl ?_
            walk_at "v"
            rcases dn5.at w' with ⟨g1, g2⟩ | ⟨v', j, t', g1, g2, g3⟩
            · rw [h2] at g2; cases g2
            rw [h2] at g2; cases g2
            refine k_get (k := Sum.inr (S w')) en5 g1 ?_
            rw [g3.num]
            walk_at "v"
            exact ⟨many + t.nodes, _, _, by rw [show ((many : Int) + (t.nodes : Int)) = ((many + t.nodes : Nat) : Int) by omega], rfl, by rw [hnx]; show _ = many + (putL tv 0 (.var w' k)).nodes; rw [put_hit h2]⟩
          · walk_at "v"
            exact one (no fun t' z => by rw [h2] at z; cases z; exact hb rfl)
    · rintro σ G ⟨many, v7, v8, rfl, rfl, hmany⟩
      rw [List.take_of_length_le (by rw [pts_len]; omega), cq_put, hsub] at hmany
      walk_at "v"
      refine w_dec (fun hb => ?_) (fun hb => ?_)
      · walk_at "v"
        refine w_raiseH ?_
        walk_at "v"
        refine ⟨_, rfl, ⟨_, rfl, small_log (n := 400) (by omega)⟩, fun d hd => ?_⟩
        exact hE (by omega) d _ ((sg.tr s5).tr (same_upd hd)) upd_same
      · walk_at "v"
        refine ⟨_, _, rfl, g, va, kv1, _, tv, 0, hx.tm (Tm.same (sg.tr s5)), rfl, ev5, dv5, hvok, hg, hdp, fun u H6 s6 t6 => hQ (by omega) u H6 ((sg.tr s5).tr s6) ?_⟩
        rw [← hsub]; exact t6
end
end K01

namespace K01
open PySem PySem.Spec PyProof.Rows L2 SX K02
local macro_rules | `(tactic| walk_at "w1") => `(tactic| (first
  | with_reducible refine w_seq ?_ | with_reducible refine w_asgN ?_ | with_reducible refine w_c ?_
  | ((with_reducible refine' w_var ?wv ?_); (case wv => exact rfl))
  | with_reducible refine w_op ?_ | with_reducible refine w_un ?_ | with_reducible refine w_next ?_ | with_reducible refine w_brk ?_ | with_reducible refine w_cnt ?_
  | with_reducible refine w_ifS ?_ | with_reducible refine w_if ?_ | with_reducible refine w_test ?_ | with_reducible refine w_tB ?_ | with_reducible refine w_bl ?_ | with_reducible refine w_blI ?_
  | with_reducible refine w_and ?_ | with_reducible refine w_or ?_ | with_reducible refine w_not ?_ | with_reducible refine w_andV ?_ | with_reducible refine w_orV ?_ | with_reducible refine w_notV ?_
  | with_reducible refine w_nil ?_ | with_reducible refine w_cons ?_ | with_reducible refine w_cb ?_ | with_reducible refine w_call ?_ | with_reducible refine w_callS ?_ | with_reducible refine w_chain ?_
  | with_reducible refine w_tupN ?_ | with_reducible refine w_lstN ?_ | with_reducible refine w_sl ?_ | with_reducible refine w_noPart ?_ | with_reducible refine w_part ?_ | with_reducible refine w_partI ?_
  | with_reducible refine w_ret ?_ | with_reducible refine w_retN ?_ | with_reducible refine w_drop ?_ | with_reducible refine w_asg ?_ | with_reducible refine w_gSub ?_
  | ((with_reducible refine' w_aug ?wv ?_); (case wv => exact rfl)) | with_reducible refine w_ipI ?_
  | with_reducible refine w_addI ?_ | with_reducible refine w_subI ?_ | with_reducible refine w_ltI ?_ | with_reducible refine w_leI ?_ | with_reducible refine w_gtI ?_ | with_reducible refine w_geI ?_
  | with_reducible refine w_eqI ?_ | with_reducible refine w_neI ?_ | with_reducible refine w_eqT ?_ | with_reducible refine w_neT ?_ | with_reducible refine w_inS ?_ | with_reducible refine w_ninS ?_
  | with_reducible refine w_absI ?_ | with_reducible refine w_intI ?_ | with_reducible refine w_maxI ?_ | with_reducible refine w_minI ?_
  | with_reducible refine w_for ?_ | with_reducible refine w_iR1 ?_ | with_reducible refine w_iR2 ?_ | with_reducible refine w_iStr ?_ | with_reducible refine w_strI ?_ | with_reducible refine w_iList ?_ | with_reducible refine w_iTup ?_
  | with_reducible refine w_bm ?_ | with_reducible refine w_bm0 ?_ | with_reducible refine w_t ?_ | with_reducible refine w_f ?_ | with_reducible refine w_nt ?_ | with_reducible refine w_nx ?_ | with_reducible refine w_rt ?_ | with_reducible refine w_bk ?_ | with_reducible refine w_ct ?_ | with_reducible refine w_nf ?_ | with_reducible refine w_lc ?_ | with_reducible refine w_yes ?_ | with_reducible refine w_neg ?_ | with_reducible refine w_intB ?_ | with_reducible refine w_fld ?_ | with_reducible refine w_setf ?_ | with_reducible refine w_faug ?_ | with_reducible refine w_meth ?_ | with_reducible refine w_bmS ?_ | with_reducible refine w_start ?_ | with_reducible refine w_revL ?_ | with_reducible refine w_iR3 ?_))
local macro_rules | `(tactic| walk_at "w") => `(tactic| (repeat (first | walk_at "w1" | dsimp (config := { proj := false }) only [List.set_cons_zero, List.set_cons_succ])))
section
variable {w : World} {K : PySem.W.Frag} {mg : Str → Option Value} {base : Heap}
local macro_rules | `(tactic| walk_at "v1") => `(tactic| (first
  | with_reducible refine w_seq ?_ | with_reducible refine w_asgN ?_ | with_reducible refine w_c ?_
  | ((with_reducible refine' w_var ?wv ?_); (case wv => exact rfl))
  | with_reducible refine w_op ?_ | with_reducible refine w_un ?_ | with_reducible refine w_next ?_ | with_reducible refine w_brk ?_ | with_reducible refine w_cnt ?_
  | with_reducible refine w_ifS ?_ | with_reducible refine w_if ?_ | with_reducible refine w_test ?_ | with_reducible refine w_tB ?_ | with_reducible refine w_bl ?_ | with_reducible refine w_blI ?_
  | with_reducible refine w_and ?_ | with_reducible refine w_or ?_ | with_reducible refine w_not ?_ | with_reducible refine w_andV ?_ | with_reducible refine w_orV ?_ | with_reducible refine w_notV ?_
  | with_reducible refine w_nil ?_ | with_reducible refine w_cons ?_ | with_reducible refine w_cb ?_ | with_reducible refine w_call ?_ | with_reducible refine w_callS ?_ | with_reducible refine w_chain ?_
  | with_reducible refine w_sl ?_ | with_reducible refine w_noPart ?_ | with_reducible refine w_part ?_ | with_reducible refine w_partI ?_
  | with_reducible refine w_ret ?_ | with_reducible refine w_retN ?_ | with_reducible refine w_drop ?_ | with_reducible refine w_asg ?_ | with_reducible refine w_gSub ?_
  | ((with_reducible refine' w_aug ?wv ?_); (case wv => exact rfl)) | with_reducible refine w_ipI ?_
  | with_reducible refine w_addI ?_ | with_reducible refine w_subI ?_ | with_reducible refine w_ltI ?_ | with_reducible refine w_leI ?_ | with_reducible refine w_gtI ?_ | with_reducible refine w_geI ?_
  | with_reducible refine w_eqI ?_ | with_reducible refine w_neI ?_ | with_reducible refine w_eqT ?_ | with_reducible refine w_neT ?_ | with_reducible refine w_inS ?_ | with_reducible refine w_ninS ?_
  | with_reducible refine w_absI ?_ | with_reducible refine w_intI ?_ | with_reducible refine w_maxI ?_ | with_reducible refine w_minI ?_
  | with_reducible refine w_for ?_ | with_reducible refine w_iR1 ?_ | with_reducible refine w_iR2 ?_ | with_reducible refine w_iStr ?_ | with_reducible refine w_strI ?_ | with_reducible refine w_iList ?_ | with_reducible refine w_iTup ?_
  | with_reducible refine w_bm ?_ | with_reducible refine w_bm0 ?_ | with_reducible refine w_t ?_ | with_reducible refine w_f ?_ | with_reducible refine w_nt ?_ | with_reducible refine w_nx ?_ | with_reducible refine w_rt ?_ | with_reducible refine w_bk ?_ | with_reducible refine w_ct ?_ | with_reducible refine w_nf ?_ | with_reducible refine w_lc ?_ | with_reducible refine w_yes ?_ | with_reducible refine w_neg ?_ | with_reducible refine w_intB ?_ | with_reducible refine w_fld ?_ | with_reducible refine w_setf ?_ | with_reducible refine w_faug ?_ | with_reducible refine w_meth ?_ | with_reducible refine w_bmS ?_ | with_reducible refine w_start ?_ | with_reducible refine w_revL ?_ | with_reducible refine w_iR3 ?_))
local macro_rules | `(tactic| walk_at "v") => `(tactic| (repeat (first | walk_at "v1" | dsimp (config := { proj := false }) only [List.set_cons_zero, List.set_cons_succ])))
local macro_rules | `(tactic| walk_at "d") => `(tactic| (repeat (first | exact eva_nil | refine eva_cons ?_ ?_ | exact ev_str | exact ev_int | exact ev_neg | refine ev_tup ?_ | (refine ev_var rfl ?_; assumption))))


def sp_law_told_put : Sp := sp2 fun x y H Q _ => ∃ (g : Gt) (a : Addr) (kvs : List (Key × V)) (n : Nat) (tt : Tb (Kd × Gt)), TD H x (upT g).d ∧ y = .ref a ∧ H a = some (.dK kvs) ∧ DT H kvs n tt (fun e => (upT e.2).d) ∧ TtOk tt ∧ g.gok ∧ g.dep ≤ 130 ∧ g.nodes ≤ 500 ∧ ∀ u H', Same H H' → TD H' u (toldT (subT (putL tt) g 0)) → Q u H'
theorem ok_law_told_put (T : Txt w K mg) {fd : FuncData} (F : Fn_law_told_put K fd) (hm : mg "_law_told_put" = some (.ref (He.ga K "_law_told_put"))) (c_put_terms : CalX P w K mg base (L2.CX P w) 132 "put_terms" (sp_put_terms K)) : CalX P w K mg base CX0 133 "_law_told_put" sp_law_told_put := by
  refine calx0 (k := 132) F hm sc_law_told_put (b_law_told_put F) (fun _ _ _ _ h => sp2_len h) (fun cdv A outer s H vs Q E hr h => ?_)
  obtain ⟨x0, x1, rfl, h⟩ := h
  refine ⟨_, (pss_cons (ps_try_manyA rfl rfl takes0 (fun W pn xe tk _ => (pss_one (ps_set (i := 2) sc_law_told_put.nd rfl (Or.inl rfl) (pe_cxS c_put_terms hr (by decide) rfl (fun σ => passAt tk σ) (by exact (pa_cons (pv 0) (pa_cons (pv 1) pa_nil)))))))
    (HdsA.as_ (i := 3) sc_law_told_put.nd rfl rfl ⟨rfl, by decide, .inl T.g_TooLarge⟩ (fun a oe cls d pn hz hf => (pss_one (ps_ret (pe_tup (pa_cons pe_str (pa_cons (pe_xf ⟨T.e_TooLarge.hg, T.e_TooLarge.hk, T.e_TooLarge.hs, T.e_TooLarge.hd⟩ T.n_TooLarge hz hf (pv 3)) (pa_cons (pe_callB (call_isEd hz hf) (by rfl) T.f_isinstance (by decide +kernel) (pa_cons (pv 3) (pa_cons (pe_gv T.v_HallError) pa_nil))) pa_nil))))))) HdsA.nil))
    (pss_one (ps_ret (pe_tup (pa_cons pe_str (pa_cons (pv 2) pa_nil)))))), ?_⟩
  rw [show start ["term", "table", "made", "e"] [x0, x1] = [some x0, some x1, none, none] from rfl]
  have ec0 : Str.ofString "term" = S [116,101,114,109] := S_ofs (by decide +kernel)
  have ec1 : Str.ofString "large" = S [108,97,114,103,101] := S_ofs (by decide +kernel)
  rw [ec0, ec1]
  obtain ⟨g, a, kvs, n, tt, hx, rfl, ha, hd, htt, hg, hdp, hng, hQ⟩ := h
  try dsimp only [cxOf]
  walk_at "v"
  refine ⟨_, _, rfl, g, a, kvs, n, tt, hx, rfl, ha, hd, htt, hg, hdp, hng, fun hbig d H1 s1 hd1 => ?_, fun hsm u H1 s1 t1 => ?_⟩
  · refine ⟨true, T.x_TooLarge_TooLarge, fun _ ea hea => ?_, fun z => by cases z⟩
    dsimp only [endsAs]
    walk_at "v"
    refine w_tupN ?_
    walk_at "v"
    refine ⟨_, rfl, rfl, rfl, d, _, _, rfl, hd1, rfl, ?_⟩
    walk_at "v"
    refine ⟨_, _, true, _, d, _, rfl, rfl, T.e_TooLarge, rfl, hd1, fun u z => z, T.k_TooLarge_HallError, ?_⟩
    walk_at "v"
    refine t_new (ds := [.str (S wLARGE), .int 400, .bool true]) (.cons (.str _) (.cons (.int _) (.cons (.bl _) .nil))) (fun p3 H3 hp3 s3 t3 => ?_)
    exact hQ _ H3 (s1.tr s3) (by unfold toldT; rw [if_neg (by omega)]; exact t3)
  · walk_at "v"
    refine w_tupN ?_
    walk_at "v"
    refine t_new (ds := [.str (S wTERM), (upT (subT (putL tt) g 0)).d]) (.cons (.str _) (.cons t1 .nil)) (fun p3 H3 hp3 s3 t3 => ?_)
    exact hQ _ H3 (s1.tr s3) (by unfold toldT; rw [if_pos hsm]; exact t3)

/-- the dict of fills: at a name a kind and a list, in a new tuple -/
def FD (H : Hp) (kvs : List (Key × V)) (n : Nat) (fb : Tb (Kd × List G2)) : Prop := kvs.length ≤ n ∧ (∀ p ∈ kvs, ∃ w, p.1 = Sum.inr (S w)) ∧
  ∀ w, (valV kvs (Sum.inr (S w)) = none ∧ fb w = none) ∨ ∃ b x p k c, valV kvs (Sum.inr (S w)) = some (.ref b) ∧ fb w = some (k, c) ∧ H b = some (.tup [x, .ref p]) ∧ TD H x k.d ∧ DL H p (gd c)
theorem FD.same {H H' : Hp} {kvs : List (Key × V)} {n : Nat} {fb : Tb (Kd × List G2)} (h : FD H kvs n fb) (s : Same H H') : FD H' kvs n fb :=
  ⟨h.1, h.2.1, fun w => (h.2.2 w).imp id fun ⟨b, x, p, k, c, h1, h2, h3, h4, h5⟩ => ⟨b, x, p, k, c, h1, h2, s _ _ h3, h4.tm (Tm.same s), h5.same s⟩⟩
def FbOk (D : Nat) (fb : Tb (Kd × List G2)) : Prop := ∀ w k c, fb w = some (k, c) → GK k ∧ TF c [(k, [])] ∧ (∀ r ∈ c, r.gok) ∧ c.length ≤ 100 ∧ ∀ t, fo c = [t] → t.dep ≤ D
/-- one row's part -/
def rowP (fb : Tb (Kd × List G2)) (r : G2) : List G2 := rowS (putC fb) r 0
theorem putC_lv (fb : Tb (Kd × List G2)) (l m : Nat) (x : Lf) : putC fb l x = putC fb m x := by cases x <;> rfl
theorem put_rows (fb : Tb (Kd × List G2)) : ∀ (c : List G2) (todo : List Nat), subC (putC fb) c todo = (c.map (rowP fb)).flatten
  | [], _ => rfl
  | .app :: c, todo => by show Rw.app :: subC (putC fb) c _ = _; rw [put_rows fb c]; rfl
  | .lam k :: c, todo => by show Rw.lam k :: subC (putC fb) c _ = _; rw [put_rows fb c]; rfl
  | .tip x :: c, todo => by show putC fb _ x ++ subC (putC fb) c _ = _; rw [put_rows fb c, putC_lv fb _ 0]; rfl
theorem rowP_hit {fb : Tb (Kd × List G2)} {w : List Nat} {k : Kd} {c : List G2} (e : fb w = some (k, c)) : rowP fb (.tip (.var w k)) = c := by show putC fb 0 (.var w k) = c; simp only [putC, e, if_pos]
theorem rowP_miss {fb : Tb (Kd × List G2)} {w : List Nat} {k : Kd} (e : ∀ c, fb w ≠ some (k, c)) : rowP fb (.tip (.var w k)) = [.tip (.var w k)] := by
  show putC fb 0 (.var w k) = _
  simp only [putC]
  cases h : fb w with
  | none => rfl
  | some kt =>
    obtain ⟨k', t⟩ := kt
    show (if k' = k then t else [.tip (.var w k)]) = _
    by_cases z : k' = k
    · subst z; exact absurd h (e t)
    · rw [if_neg z]
theorem rowP_len {fb : Tb (Kd × List G2)} {D : Nat} (h : FbOk D fb) (r : G2) : (rowP fb r).length ≤ 100 := by
  cases r with
  | app => show 1 ≤ 100; omega
  | lam k => show 1 ≤ 100; omega
  | tip x =>
    cases x with
    | bnd i => show 1 ≤ 100; omega
    | cst w k => show 1 ≤ 100; omega
    | var w k =>
      by_cases z : ∃ c, fb w = some (k, c)
      · obtain ⟨c, e⟩ := z
        rw [rowP_hit e]; exact (h w k c e).2.2.2.1
      · rw [rowP_miss fun c e => z ⟨c, e⟩]; show 1 ≤ 100; omega
def sp_law_put : Sp := sp2 fun x y H Q _ => ∃ (p a : Addr) (c : List G2) (kvs : List (Key × V)) (n D : Nat) (fb : Tb (Kd × List G2)), x = .ref p ∧ y = .ref a ∧ DL H p (gd c) ∧ H a = some (.dK kvs) ∧ FD H kvs n fb ∧ FbOk D fb ∧ (∀ r ∈ c, r.gok) ∧ c.length ≤ 450 ∧
  ∀ q H', H q = none → Same H H' → DL H' q (gd (subC (putC fb) c [0])) → Q (.ref q) H'
theorem ok_law_put (T : Txt w K mg) {fd : FuncData} (F : Fn_law_put K fd) (hm : mg "_law_put" = some (.ref (He.ga K "_law_put")))  : CalX P w K mg base CX0 1 "_law_put" sp_law_put := by
  refine calx0 (k := 0) F hm sc_law_put (b_law_put F) (fun _ _ _ _ h => sp2_len h) (fun cdv A outer s H vs Q E hr h => ?_)
  obtain ⟨x0, x1, rfl, h⟩ := h
  refine ⟨_, (pss_cons (ps_set (i := 2) sc_law_put.nd rfl (Or.inl rfl) (pe_lst pa_nil))
    (pss_cons (ps_for PassesOwn.never rfl (pi_list (pv 0)) (pg_name (i := 3) sc_law_put.nd rfl (Or.inl rfl))
    (pss_one (ps_if (PW.pt (pw_and (pt_cmpR op_eq (pe_ix ix_tup (pv 3) pe_int (fun _ _ => rfl)) pe_str (nomark _)) (pw_and (pt_cmp (pc_din (hu_of hr) (pe_ix ix_tup (pv 3) pe_int (fun _ _ => rfl)) (pv 1))) (pw_and1 (pt_cmpR (op_eqN hr) (pe_ix ix_tup (pe_dget (hu_of hr) (pv 1) (pe_ix ix_tup (pv 3) pe_int (fun _ _ => rfl)) (fun _ _ => rfl)) pe_int (fun _ _ => rfl)) (pe_ix ix_tup (pv 3) pe_int (fun _ _ => rfl)) (nomark _))))))
    (pss_one (ps_expr (pe_bm PySem.F.plainAttrs_list PySem.F.slot_list_extend PySem.F.type_list_extend mt_extend (pv 2) (pa_cons (pe_ix ix_tup (pe_dget (hu_of hr) (pv 1) (pe_ix ix_tup (pv 3) pe_int (fun _ _ => rfl)) (fun _ _ => rfl)) pe_int (fun _ _ => rfl)) pa_nil))))
    (pss_one (ps_expr (pe_bm PySem.F.plainAttrs_list PySem.F.slot_list_append PySem.F.type_list_append mt_append (pv 2) (pa_cons (pv 3) pa_nil)))))))
    (pss_one (ps_ret (pv 2))))), ?_⟩
  rw [show start ["code", "fills", "made", "row"] [x0, x1] = [some x0, some x1, none, none] from rfl]
  have ec0 : Str.ofString "var" = S [118,97,114] := S_ofs (by decide +kernel)
  rw [ec0]
  obtain ⟨p, a, c, kvs, n, D, fb, rfl, rfl, hd, ha, hf, hfb, hg, hz, hQ⟩ := h
  try dsimp only [cxOf]
  walk_at "v"
  refine ev_lst (ds := gd []) (by walk_at "d") (fun mq H1 hm s1 dm => ?_)
  walk_at "v"
  obtain ⟨xs, e0, t0⟩ := hd
  have lx : xs.length = c.length := by rw [t0.len, gd_len]
  refine w_lstI (SqL.of (s1 _ _ e0)) ?_
  refine for_list (xs := xs) (fun i σ H' => ∃ (m : List G2) (v3 : Option V), σ = [some (.ref p), some (.ref a), some (.ref mq), v3] ∧ Same H H' ∧ DL H' mq (gd m) ∧ m = ((c.take i).map (rowP fb)).flatten ∧ m.length ≤ 100 * i)
    ⟨[], _, rfl, s1, dm, rfl, Nat.zero_le _⟩ (fun i σ H' _ h => by obtain ⟨_, _, _, h, _⟩ := h; exact SqL.of (h _ _ e0)) ?_ ?_
  · rintro i x σ G hx ⟨m, v3, rfl, sg, dg, hmm, hml⟩
    have hi : i < c.length := by rw [← lx]; exact (List.getElem?_eq_some_iff.mp hx).1
    obtain ⟨d, ed, td⟩ := (t0.tm (Tm.same sg)).get' hx
    have ei := List.getElem?_eq_getElem hi
    have gi := hg _ (List.getElem_mem hi)
    generalize c[i] = r at ei gi
    have edr : d = (upR r).d := by
      unfold gd cd at ed
      rw [List.getElem?_map, List.getElem?_map, ei] at ed
      exact (Option.some.inj ed).symm
    subst edr
    have hnx : ((c.take (i + 1)).map (rowP fb)).flatten = m ++ rowP fb r := by
      rw [List.take_add_one, ei, List.map_append, List.flatten_append, ← hmm]; simp
    have hlr := rowP_len hfb r
    have hgl : (gd m).length ≤ 45000 := by rw [gd_len]; omega
    dsimp only [gName]
    walk_at "v"
    obtain ⟨rest, er⟩ := gw_d r
    have tdx : TD G x (.tuple (.str (S (gw r)) :: rest)) := by rw [← er]; exact td
    refine t_ixS (n := 0) tdx rfl ?_
    walk_at "v"
    have last : rowP fb r = [r] → rAppend (.ref mq) [x] G (fun _ H1 => ∃ (m : List G2) (v3 : Option V), [some (.ref p), some (.ref a), some (.ref mq), some x] = [some (.ref p), some (.ref a), some (.ref mq), v3] ∧ Same H H1 ∧ DL H1 mq (gd m) ∧ m = ((c.take (i + 1)).map (rowP fb)).flatten ∧ m.length ≤ 100 * (i + 1)) := fun e => by
      refine l_app dg td (fun G' dg' x' => ?_) (by omega)
      exact ⟨m ++ [r], some x, rfl, sg.ex hm x', by rw [gd_app]; exact dg', by rw [hnx, e], by rw [List.length_append]; show m.length + 1 ≤ 100 * (i + 1); omega⟩
    cases r with
    | app =>
      rw [show decide (gw .app = [118, 97, 114]) = false from (show decide (wAPP = [118, 97, 114]) = false by decide)]
      walk_at "v"
      refine l_ty dg ?_
      walk_at "v"
      exact last rfl
    | lam j =>
      rw [show decide (gw (.lam j) = [118, 97, 114]) = false from (show decide (wLAM = [118, 97, 114]) = false by decide)]
      walk_at "v"
      refine l_ty dg ?_
      walk_at "v"
      exact last rfl
    | tip l =>
      cases l with
      | bnd j =>
        rw [show decide (gw (.tip (.bnd j)) = [118, 97, 114]) = false from (show decide (wBOUND = [118, 97, 114]) = false by decide)]
        walk_at "v"
        refine l_ty dg ?_
        walk_at "v"
        exact last rfl
      | cst w' k' =>
        rw [show decide (gw (.tip (.cst w' k')) = [118, 97, 114]) = false from (show decide (wCONST = [118, 97, 114]) = false by decide)]
        walk_at "v"
        refine l_ty dg ?_
        walk_at "v"
        exact last rfl
      | var w' k' =>
        rw [show decide (gw (.tip (.var w' k')) = [118, 97, 114]) = true from (show decide (wVAR = [118, 97, 114]) = true by decide)]
        walk_at "v"
        have gi : isName w' = true ∧ GK k' := gi
        have ty : TD G x (.tuple [.str (S wVAR), .str (S w'), k'.d]) := td
        have ga := sg _ _ ha
        have gf := hf.same sg
        refine w_din ?_
        walk_at "v"
        refine t_ixS (n := 1) ty rfl ?_
        walk_at "v"
        refine k_in (k := Sum.inr (S w')) ga ?_
        rcases gf.2.2 w' with ⟨h1, h2⟩ | ⟨b, y, q, k, v, h1, h2, h3, h4, h5⟩
        · rw [h1]
          refine ⟨false, rfl, ?_⟩
          walk_at "v"
          refine l_ty dg ?_
          walk_at "v"
          exact last (rowP_miss fun c z => by rw [h2] at z; cases z)
        rw [h1]
        refine ⟨true, rfl, ?_⟩
        walk_at "v"
        refine w_dget ?_
        walk_at "v"
        refine t_ixS (n := 1) ty rfl ?_
        walk_at "v"
        refine k_get (k := Sum.inr (S w')) ga h1 ?_
        walk_at "v"
        refine w_ixU (n := 0) (SqT.of h3) rfl ?_
        walk_at "v"
        refine t_ix (n := 2) ty rfl (fun y2 ty2 => ?_)
        walk_at "v"
        obtain ⟨q1, q2, q3, q4, q5⟩ := hfb w' k v h2
        refine d_eq h4 ty2 (GK.sz180 q1) (GK.sz180 gi.2) ?_
        rw [Kd.eqv]
        walk_at "v"
        refine w_dec (fun hb => ?_) (fun hb => ?_)
        · subst hb
          walk_at "v"
          refine l_ty dg ?_
          walk_at "v"
          refine w_dget ?_
          walk_at "v"
          refine t_ixS (n := 1) ty rfl ?_
          walk_at "v"
          refine k_get (k := Sum.inr (S w')) ga h1 ?_
          walk_at "v"
          refine w_ixU (n := 1) (SqT.of h3) rfl ?_
          walk_at "v"
          refine l_extL dg h5 (fun G' dg' x' => ?_) (by rw [gd_len]; rw [gd_len]; omega)
          exact ⟨m ++ v, some x, rfl, sg.ex hm x', by rw [gd_app]; exact dg', by rw [hnx, rowP_hit h2], by rw [List.length_append]; omega⟩
        · walk_at "v"
          refine l_ty dg ?_
          walk_at "v"
          exact last (rowP_miss fun c z => by rw [h2] at z; cases z; exact hb rfl)
  · rintro σ G ⟨m, v3, rfl, sg, dg, hmm, hml⟩
    rw [lx, List.take_length, ← put_rows fb c [0]] at hmm
    subst hmm
    walk_at "v"
    exact hQ mq G hm sg dg
end
end K01

namespace K01
open PySem PySem.Spec PyProof.Rows L2 SX K02
local macro_rules | `(tactic| walk_at "w1") => `(tactic| (first
  | with_reducible refine w_seq ?_ | with_reducible refine w_asgN ?_ | with_reducible refine w_c ?_
  | ((with_reducible refine' w_var ?wv ?_); (case wv => exact rfl))
  | with_reducible refine w_op ?_ | with_reducible refine w_un ?_ | with_reducible refine w_next ?_ | with_reducible refine w_brk ?_ | with_reducible refine w_cnt ?_
  | with_reducible refine w_ifS ?_ | with_reducible refine w_if ?_ | with_reducible refine w_test ?_ | with_reducible refine w_tB ?_ | with_reducible refine w_bl ?_ | with_reducible refine w_blI ?_
  | with_reducible refine w_and ?_ | with_reducible refine w_or ?_ | with_reducible refine w_not ?_ | with_reducible refine w_andV ?_ | with_reducible refine w_orV ?_ | with_reducible refine w_notV ?_
  | with_reducible refine w_nil ?_ | with_reducible refine w_cons ?_ | with_reducible refine w_cb ?_ | with_reducible refine w_call ?_ | with_reducible refine w_callS ?_ | with_reducible refine w_chain ?_
  | with_reducible refine w_tupN ?_ | with_reducible refine w_lstN ?_ | with_reducible refine w_sl ?_ | with_reducible refine w_noPart ?_ | with_reducible refine w_part ?_ | with_reducible refine w_partI ?_
  | with_reducible refine w_ret ?_ | with_reducible refine w_retN ?_ | with_reducible refine w_drop ?_ | with_reducible refine w_asg ?_ | with_reducible refine w_gSub ?_
  | ((with_reducible refine' w_aug ?wv ?_); (case wv => exact rfl)) | with_reducible refine w_ipI ?_
  | with_reducible refine w_addI ?_ | with_reducible refine w_subI ?_ | with_reducible refine w_ltI ?_ | with_reducible refine w_leI ?_ | with_reducible refine w_gtI ?_ | with_reducible refine w_geI ?_
  | with_reducible refine w_eqI ?_ | with_reducible refine w_neI ?_ | with_reducible refine w_eqT ?_ | with_reducible refine w_neT ?_ | with_reducible refine w_inS ?_ | with_reducible refine w_ninS ?_
  | with_reducible refine w_absI ?_ | with_reducible refine w_intI ?_ | with_reducible refine w_maxI ?_ | with_reducible refine w_minI ?_
  | with_reducible refine w_for ?_ | with_reducible refine w_iR1 ?_ | with_reducible refine w_iR2 ?_ | with_reducible refine w_iStr ?_ | with_reducible refine w_strI ?_ | with_reducible refine w_iList ?_ | with_reducible refine w_iTup ?_
  | with_reducible refine w_bm ?_ | with_reducible refine w_bm0 ?_ | with_reducible refine w_t ?_ | with_reducible refine w_f ?_ | with_reducible refine w_nt ?_ | with_reducible refine w_nx ?_ | with_reducible refine w_rt ?_ | with_reducible refine w_bk ?_ | with_reducible refine w_ct ?_ | with_reducible refine w_nf ?_ | with_reducible refine w_lc ?_ | with_reducible refine w_yes ?_ | with_reducible refine w_neg ?_ | with_reducible refine w_intB ?_ | with_reducible refine w_fld ?_ | with_reducible refine w_setf ?_ | with_reducible refine w_faug ?_ | with_reducible refine w_meth ?_ | with_reducible refine w_bmS ?_ | with_reducible refine w_start ?_ | with_reducible refine w_revL ?_ | with_reducible refine w_iR3 ?_))
local macro_rules | `(tactic| walk_at "w") => `(tactic| (repeat (first | walk_at "w1" | dsimp (config := { proj := false }) only [List.set_cons_zero, List.set_cons_succ])))
section
variable {w : World} {K : PySem.W.Frag} {mg : Str → Option Value} {base : Heap}
local macro_rules | `(tactic| walk_at "v1") => `(tactic| (first
  | with_reducible refine w_seq ?_ | with_reducible refine w_asgN ?_ | with_reducible refine w_c ?_
  | ((with_reducible refine' w_var ?wv ?_); (case wv => exact rfl))
  | with_reducible refine w_op ?_ | with_reducible refine w_un ?_ | with_reducible refine w_next ?_ | with_reducible refine w_brk ?_ | with_reducible refine w_cnt ?_
  | with_reducible refine w_ifS ?_ | with_reducible refine w_if ?_ | with_reducible refine w_test ?_ | with_reducible refine w_tB ?_ | with_reducible refine w_bl ?_ | with_reducible refine w_blI ?_
  | with_reducible refine w_and ?_ | with_reducible refine w_or ?_ | with_reducible refine w_not ?_ | with_reducible refine w_andV ?_ | with_reducible refine w_orV ?_ | with_reducible refine w_notV ?_
  | with_reducible refine w_nil ?_ | with_reducible refine w_cons ?_ | with_reducible refine w_cb ?_ | with_reducible refine w_call ?_ | with_reducible refine w_callS ?_ | with_reducible refine w_chain ?_
  | with_reducible refine w_sl ?_ | with_reducible refine w_noPart ?_ | with_reducible refine w_part ?_ | with_reducible refine w_partI ?_
  | with_reducible refine w_ret ?_ | with_reducible refine w_retN ?_ | with_reducible refine w_drop ?_ | with_reducible refine w_asg ?_ | with_reducible refine w_gSub ?_
  | ((with_reducible refine' w_aug ?wv ?_); (case wv => exact rfl)) | with_reducible refine w_ipI ?_
  | with_reducible refine w_addI ?_ | with_reducible refine w_subI ?_ | with_reducible refine w_ltI ?_ | with_reducible refine w_leI ?_ | with_reducible refine w_gtI ?_ | with_reducible refine w_geI ?_
  | with_reducible refine w_eqI ?_ | with_reducible refine w_neI ?_ | with_reducible refine w_eqT ?_ | with_reducible refine w_neT ?_ | with_reducible refine w_inS ?_ | with_reducible refine w_ninS ?_
  | with_reducible refine w_absI ?_ | with_reducible refine w_intI ?_ | with_reducible refine w_maxI ?_ | with_reducible refine w_minI ?_
  | with_reducible refine w_for ?_ | with_reducible refine w_iR1 ?_ | with_reducible refine w_iR2 ?_ | with_reducible refine w_iStr ?_ | with_reducible refine w_strI ?_ | with_reducible refine w_iList ?_ | with_reducible refine w_iTup ?_
  | with_reducible refine w_bm ?_ | with_reducible refine w_bm0 ?_ | with_reducible refine w_t ?_ | with_reducible refine w_f ?_ | with_reducible refine w_nt ?_ | with_reducible refine w_nx ?_ | with_reducible refine w_rt ?_ | with_reducible refine w_bk ?_ | with_reducible refine w_ct ?_ | with_reducible refine w_nf ?_ | with_reducible refine w_lc ?_ | with_reducible refine w_yes ?_ | with_reducible refine w_neg ?_ | with_reducible refine w_intB ?_ | with_reducible refine w_fld ?_ | with_reducible refine w_setf ?_ | with_reducible refine w_faug ?_ | with_reducible refine w_meth ?_ | with_reducible refine w_bmS ?_ | with_reducible refine w_start ?_ | with_reducible refine w_revL ?_ | with_reducible refine w_iR3 ?_))
local macro_rules | `(tactic| walk_at "v") => `(tactic| (repeat (first | walk_at "v1" | dsimp (config := { proj := false }) only [List.set_cons_zero, List.set_cons_succ])))
local macro_rules | `(tactic| walk_at "d") => `(tactic| (repeat (first | exact eva_nil | refine eva_cons ?_ ?_ | exact ev_str | exact ev_int | exact ev_neg | refine ev_tup ?_ | (refine ev_var rfl ?_; assumption))))


theorem CalR.imp {P : Program} {w : World} {K : PySem.W.Frag} {mg : Str → Option Value} {base : Heap} {CX : CXT} {k : Nat} {x : Str} {sp sp' : Sp} (c : CalR P w K mg base CX k x sp) (h : ∀ vs H Q E, sp' vs H Q E → sp vs H Q E) : CalR P w K mg base CX k x sp' :=
  let ⟨f, F, a, b⟩ := c.ex; ⟨f, F.imp h, a, b⟩
def trs (gs : List Gt) : List PyData := gs.map fun g => (upT g).d
def sp_app0 : Sp := sp2 fun x y H Q _ => ∃ (g : Gt) (gs : List Gt), TD H x (upT g).d ∧ TD H y (.tuple (trs gs)) ∧ ∀ u H', Same H H' → TD H' u (upT (gs.foldl Tr.app g)).d → Q u H'
def sp_appR : Sp := fun vs H Q _ => ∃ (g : Gt) (gs : List Gt) (v : V) (rest : List V), vs = v :: rest ∧ TD H v (upT g).d ∧ TDs H rest (trs gs) ∧ gs.length ≤ 5 ∧ ∀ u H', Same H H' → TD H' u (upT (gs.foldl Tr.app g)).d → Q u H'
theorem sc2_app : FnScope ["function", "arguments", "term", "argument"] ["function", "arguments"] (defScope s_app) := ⟨rfl, rfl, rfl, by decide +kernel, rfl, by decide +kernel, by decide +kernel⟩
theorem ok_app (T : Txt w K mg) {fd : FuncData} (F : Fn_app K fd) (hm : mg "app" = some (.ref (He.ga K "app")))  : CalR P w K mg base CX0 1 "app" (sp_appR) := by
  refine CalR.imp (calr0 (k := 0) (sp := sp_app0) F hm sc2_app (fun kV doc pm an cdv ct => bindV_of (fun _ => rfl) (fun _ _ => rfl) (fun _ _ _ => rfl) (fun _ _ _ _ => rfl) (fun _ _ _ _ _ => rfl) (fun _ _ _ _ _ _ => rfl)) (fun cdv A outer s H vs Q E hr h => ?_)) (fun vs H Q E ⟨g, gs, v, rest, e, hv, hr, hl, hQ⟩ => ⟨v, rest, e, by rw [hr.len]; unfold trs; rw [List.length_map]; exact hl, fun p H' hp s e => ⟨_, _, rfl, g, gs, hv.tm (Tm.same s), .tup e (hr.tm (Tm.same s)), fun u H2 s2 t2 => hQ u H2 (s.tr s2) t2⟩⟩)
  obtain ⟨x0, x1, rfl, h⟩ := h
  refine ⟨_, (pss_cons (ps_set (i := 2) sc_app.nd rfl (Or.inl rfl) (pv 0))
    (pss_cons (ps_for PassesOwn.never rfl (pi_tup (pv 1)) (pg_name (i := 3) sc_app.nd rfl (Or.inl rfl))
    (pss_one (ps_set (i := 2) sc_app.nd rfl (Or.inl rfl) (pe_tup (pa_cons pe_str (pa_cons (pv 2) (pa_cons (pv 3) pa_nil)))))))
    (pss_one (ps_ret (pv 2))))), ?_⟩
  rw [show start ["function", "arguments", "term", "argument"] [x0, x1] = [some x0, some x1, none, none] from rfl]
  have ec0 : Str.ofString "app" = S [97,112,112] := S_ofs (by decide +kernel)
  rw [ec0]
  obtain ⟨g, gs, hx, hy, hQ⟩ := h
  try dsimp only [cxOf]
  walk_at "v"
  obtain ⟨ya, xs, rfl, hya, txs⟩ := hy.tuple
  have lx : xs.length = gs.length := by rw [txs.len]; unfold trs; rw [List.length_map]
  refine w_tupI (SqT.of hya) ?_
  refine for_tup (xs := xs) (fun i σ H' => ∃ (u : V) (v3 : Option V), σ = [some x0, some (.ref ya), some u, v3] ∧ Same H H' ∧ TD H' u (upT ((gs.take i).foldl Tr.app g)).d)
    ⟨x0, _, rfl, Same.refl' _, hx⟩ (fun i σ H' _ h => by obtain ⟨_, _, _, h, _⟩ := h; exact SqT.of (h _ _ hya)) ?_ ?_
  · rintro i y σ G hi ⟨u, v3, rfl, sg, tu⟩
    obtain ⟨d, ed, td⟩ := (txs.tm (Tm.same sg)).get' hi
    have hil : i < gs.length := by rw [← lx]; exact (List.getElem?_eq_some_iff.mp hi).1
    have ei := List.getElem?_eq_getElem hil
    generalize gs[i] = r at ei
    have edr : d = (upT r).d := by
      unfold trs at ed
      rw [List.getElem?_map, ei] at ed
      exact (Option.some.inj ed).symm
    subst edr
    dsimp only [gName]
    walk_at "v"
    refine ev_go (d := (upT (.app ((gs.take i).foldl Tr.app g) r)).d) (by show Ev _ _ _ (.tuple [.str (S wAPP), (upT ((gs.take i).foldl Tr.app g)).d, (upT r).d]); walk_at "d") (fun z G1 s1 t1 => ?_)
    walk_at "v"
    refine ⟨z, _, rfl, sg.tr s1, ?_⟩
    rw [List.take_add_one, ei, List.foldl_append]; exact t1
  · rintro σ G ⟨u, v3, rfl, sg, tu⟩
    rw [lx, List.take_length] at tu
    walk_at "v"
    exact hQ u G sg tu

theorem fold_app_gok : ∀ (gs : List Gt) (g : Gt), g.gok → smB g → (∀ x ∈ gs, x.gok ∧ smB x ∧ x.dep = 1 ∧ x.nodes = 1) → (gs.foldl Tr.app g).gok ∧ smB (gs.foldl Tr.app g) ∧ (gs.foldl Tr.app g).dep ≤ g.dep + gs.length ∧ (gs.foldl Tr.app g).nodes ≤ g.nodes + 2 * gs.length
  | [], g, h1, h2, _ => ⟨h1, h2, Nat.le_refl _, Nat.le_refl _⟩
  | x :: gs, g, h1, h2, h => by
    obtain ⟨a1, a2, a3, a4⟩ := h x List.mem_cons_self
    obtain ⟨b1, b2, b3, b4⟩ := fold_app_gok gs (.app g x) ⟨h1, a1⟩ ⟨h2, a2⟩ fun y hy => h y (List.mem_cons_of_mem _ hy)
    refine ⟨b1, b2, Nat.le_trans b3 ?_, Nat.le_trans b4 ?_⟩
    · have := g.dep_pos
      show max g.dep x.dep + 1 + gs.length ≤ g.dep + (gs.length + 1)
      omega
    · show g.nodes + x.nodes + 1 + 2 * gs.length ≤ g.nodes + 2 * (gs.length + 1)
      omega
theorem len1 {α : Type} {l : List α} (h : l.length = 1) : ∃ a0, l = [a0] := by
  match l, h with
  | [a0], _ => exact ⟨a0, rfl⟩
theorem len2 {α : Type} {l : List α} (h : l.length = 2) : ∃ a0 a1, l = [a0, a1] := by
  match l, h with
  | [a0, a1], _ => exact ⟨a0, a1, rfl⟩
theorem len3 {α : Type} {l : List α} (h : l.length = 3) : ∃ a0 a1 a2, l = [a0, a1, a2] := by
  match l, h with
  | [a0, a1, a2], _ => exact ⟨a0, a1, a2, rfl⟩
theorem len4 {α : Type} {l : List α} (h : l.length = 4) : ∃ a0 a1 a2 a3, l = [a0, a1, a2, a3] := by
  match l, h with
  | [a0, a1, a2, a3], _ => exact ⟨a0, a1, a2, a3, rfl⟩
theorem len5 {α : Type} {l : List α} (h : l.length = 5) : ∃ a0 a1 a2 a3 a4, l = [a0, a1, a2, a3, a4] := by
  match l, h with
  | [a0, a1, a2, a3, a4], _ => exact ⟨a0, a1, a2, a3, a4, rfl⟩
def vT (e : List Nat × Kd) : Gt := .tip (.var e.1 e.2)
theorem vT_ok {e : List Nat × Kd} (h : isName e.1 = true ∧ GK e.2) : (vT e).gok ∧ smB (vT e) ∧ (vT e).dep = 1 ∧ (vT e).nodes = 1 := ⟨h, trivial, rfl, rfl⟩
theorem fresh_kb {a D : Addr} {H H1 : Hp} (P : Pot a H1) (k : Kb a H H1) (h : H1 D = none) : H D = none := by
  cases e : H D with
  | none => rfl
  | some o =>
    have n : D ≠ a := P.ne h
    rw [k D o n e] at h; cases h
theorem NmW.at_ {ws : List (List Nat)} {K : PySem.W.Frag} {Q : VK} {H : Hp} {p : Addr} {i : Nat} {w : List Nat} (h : NmW ws H p) (e : ws[i]? = some w) (k : isName w = true → Q (.str (S w)) H) : rIxL K (.ref p) (.int (i : Int)) H Q := by
  obtain ⟨h1, h2, h3⟩ := h
  refine l_ix h1 (d := .str (S w)) (by rw [List.getElem?_map, e]; rfl) (fun x tx => ?_)
  rw [tx.txt]
  exact k (h3 _ (List.mem_of_getElem? e))
theorem NmW.four {ws : List (List Nat)} {H : Hp} {p : Addr} (h : NmW ws H p) : ∃ w0 w1 w2 w3, ws = [w0, w1, w2, w3] := by
  obtain ⟨_, h2, _⟩ := h
  match ws, h2 with
  | [a, b, c, d], _ => exact ⟨a, b, c, d, rfl⟩
def sp_law_ask_builders : Sp := sp3 fun x y z H Q _ => ∃ (a p q : Addr) (ws : List (List Nat)), x = .ref a ∧ y = .ref p ∧ z = .ref q ∧ Pot a H ∧ NmW ws H p ∧ PoL H q ∧ ∀ H', Pot a H' → Kb a H H' → Q (.bl true) H'
theorem ok_law_ask_builders (T : Txt w K mg) {fd : FuncData} (F : Fn_law_ask_builders K fd) (hm : mg "_law_ask_builders" = some (.ref (He.ga K "_law_ask_builders"))) (c_law_take : CalX P w K mg base CX0 1 "_law_take" sp_law_take)(c_app : CalR P w K mg base CX0 1 "app" sp_appR)(c_law_same : CalG P w K mg base CX0 1 "_law_same" sp_law_same)(c_const : CalX P w K mg base CX0 1 "const" sp_const)(c_var : CalX P w K mg base CX0 1 "var" sp_var) : CalG P w K mg base CX0 2 "_law_ask_builders" sp_law_ask_builders := by
  refine calg0 (k := 1) F hm sc_law_ask_builders (b_law_ask_builders F) (fun _ _ _ _ h => sp3_len h) (fun cdv A outer s H vs Q E hr h => ?_)
  obtain ⟨x0, x1, x2, rfl, h⟩ := h
  refine ⟨_, (pss_cons (ps_setLc (i := 3) (own := [("k", 10)]) (g := gName 10) (tt := tYes) (by rfl) sc_law_ask_builders.nd rfl rfl (sw_true rfl rfl rfl (by decide +kernel)) (pi_range1 (by rfl) T.f_range (pa_cons (pe_cx c_law_take hr.toRoom (by decide) rfl pass0 (pa_cons (pv 0) (pa_cons pe_int pa_nil))) pa_nil)) (blkOk_by (own := [("k", 10)]) (N := ["pot", "words", "pool", "kinds", "kind", "part", "head", "line", "due", "told", "k"]) (sc := defScope s_law_ask_builders) (by decide +kernel)) (fun _ _ _ _ _ => pg_name (i := 10) sc_law_ask_builders.nd rfl (Or.inl rfl)) (fun _ _ _ _ _ => pts_nil) (fun _ _ _ _ _ => (pe_ix (r := rIxL K) ix_list (pv 2) (pe_cx c_law_take hr.toRoom (by decide) rfl pass0 (pa_cons (pv 0) (pa_cons pe_int pa_nil))) (fun _ _ => rfl))))
    (pss_cons (ps_set (i := 4) sc_law_ask_builders.nd rfl (Or.inl rfl) (pe_ix ix_list (pv 2) (pe_cx c_law_take hr.toRoom (by decide) rfl pass0 (pa_cons (pv 0) (pa_cons pe_int pa_nil))) (fun _ _ => rfl)))
    (pss_cons (ps_for PassesOwn.never rfl (pi_list (pe_revL (pv 3))) (pg_name (i := 5) sc_law_ask_builders.nd rfl (Or.inl rfl))
    (pss_one (ps_set (i := 4) sc_law_ask_builders.nd rfl (Or.inl rfl) (pe_tup (pa_cons pe_str (pa_cons (pv 5) (pa_cons (pv 4) pa_nil)))))))
    (pss_cons (ps_set (i := 6) sc_law_ask_builders.nd rfl (Or.inl rfl) (pe_tup (pa_cons pe_str (pa_cons (pe_ix ix_list (pv 1) (pe_cx c_law_take hr.toRoom (by decide) rfl pass0 (pa_cons (pv 0) (pa_cons pe_int pa_nil))) (fun _ _ => rfl)) (pa_cons (pv 4) pa_nil)))))
    (pss_cons (ps_setLc (i := 7) (own := [("part", 5)]) (g := gName 5) (tt := tYes) (by rfl) sc_law_ask_builders.nd rfl rfl (sw_true rfl rfl rfl (by decide +kernel)) (pi_list (pv 3)) (blkOk_by (own := [("part", 5)]) (N := ["pot", "words", "pool", "kinds", "kind", "part", "head", "line", "due", "told", "k"]) (sc := defScope s_law_ask_builders) (by decide +kernel)) (fun _ _ _ _ _ => pg_name (i := 5) sc_law_ask_builders.nd rfl (Or.inl rfl)) (fun _ _ _ _ _ => pts_nil) (fun _ _ _ _ _ => (pe_tup (pa_cons pe_str (pa_cons (pe_ix (r := rIxL K) ix_list (pv 1) (pe_cx c_law_take hr.toRoom (by decide) rfl pass0 (pa_cons (pv 0) (pa_cons pe_int pa_nil))) (fun _ _ => rfl)) (pa_cons (pv 5) pa_nil))))))
    (pss_cons (ps_set (i := 8) sc_law_ask_builders.nd rfl (Or.inl rfl) (pv 6))
    (pss_cons (ps_for PassesOwn.never rfl (pi_list (pv 7)) (pg_name (i := 5) sc_law_ask_builders.nd rfl (Or.inl rfl))
    (pss_one (ps_set (i := 8) sc_law_ask_builders.nd rfl (Or.inl rfl) (pe_tup (pa_cons pe_str (pa_cons (pv 8) (pa_cons (pv 5) pa_nil)))))))
    (pss_cons (ps_set (i := 9) sc_law_ask_builders.nd rfl (Or.inl rfl) (pe_cr c_app hr.toRoom (by decide) rfl pass0 (pa_cons (pv 6) pa_nil)))
    (Evl.pss_cut (ps_if (pt_cmpR op_eq (pe_callB call_lenQ (by rfl) T.f_len PySem.boot_len (pa_cons (pv 7) pa_nil)) pe_int (nomark _))
    (pss_one (ps_set (i := 9) sc_law_ask_builders.nd rfl (Or.inl rfl) (pe_cr c_app hr.toRoom (by decide) rfl pass0 (pa_cons (pv 6) (pa_cons (pe_ix ix_list (pv 7) pe_int (fun _ _ => rfl)) pa_nil)))))
    (pss_one (ps_if (pt_cmpR op_eq (pe_callB call_lenQ (by rfl) T.f_len PySem.boot_len (pa_cons (pv 7) pa_nil)) pe_int (nomark _))
    (pss_one (ps_set (i := 9) sc_law_ask_builders.nd rfl (Or.inl rfl) (pe_cr c_app hr.toRoom (by decide) rfl pass0 (pa_cons (pv 6) (pa_cons (pe_ix ix_list (pv 7) pe_int (fun _ _ => rfl)) (pa_cons (pe_ix ix_list (pv 7) pe_int (fun _ _ => rfl)) pa_nil))))))
    (pss_one (ps_if (pt_cmpR op_eq (pe_callB call_lenQ (by rfl) T.f_len PySem.boot_len (pa_cons (pv 7) pa_nil)) pe_int (nomark _))
    (pss_one (ps_set (i := 9) sc_law_ask_builders.nd rfl (Or.inl rfl) (pe_cr c_app hr.toRoom (by decide) rfl pass0 (pa_cons (pv 6) (pa_cons (pe_ix ix_list (pv 7) pe_int (fun _ _ => rfl)) (pa_cons (pe_ix ix_list (pv 7) pe_int (fun _ _ => rfl)) (pa_cons (pe_ix ix_list (pv 7) pe_int (fun _ _ => rfl)) pa_nil)))))))
    (pss_one (ps_if (pt_cmpR op_eq (pe_callB call_lenQ (by rfl) T.f_len PySem.boot_len (pa_cons (pv 7) pa_nil)) pe_int (nomark _))
    (pss_one (ps_set (i := 9) sc_law_ask_builders.nd rfl (Or.inl rfl) (pe_cr c_app hr.toRoom (by decide) rfl pass0 (pa_cons (pv 6) (pa_cons (pe_ix ix_list (pv 7) pe_int (fun _ _ => rfl)) (pa_cons (pe_ix ix_list (pv 7) pe_int (fun _ _ => rfl)) (pa_cons (pe_ix ix_list (pv 7) pe_int (fun _ _ => rfl)) (pa_cons (pe_ix ix_list (pv 7) pe_int (fun _ _ => rfl)) pa_nil))))))))
    (pss_one (ps_if (pt_cmpR op_eq (pe_callB call_lenQ (by rfl) T.f_len PySem.boot_len (pa_cons (pv 7) pa_nil)) pe_int (nomark _))
    (pss_one (ps_set (i := 9) sc_law_ask_builders.nd rfl (Or.inl rfl) (pe_cr c_app hr.toRoom (by decide) rfl pass0 (pa_cons (pv 6) (pa_cons (pe_ix ix_list (pv 7) pe_int (fun _ _ => rfl)) (pa_cons (pe_ix ix_list (pv 7) pe_int (fun _ _ => rfl)) (pa_cons (pe_ix ix_list (pv 7) pe_int (fun _ _ => rfl)) (pa_cons (pe_ix ix_list (pv 7) pe_int (fun _ _ => rfl)) (pa_cons (pe_ix ix_list (pv 7) pe_int (fun _ _ => rfl)) pa_nil)))))))))
    pss_nil)))))))))
    (pss_cons (ps_if (PW.pt (pw_or (pt_not (pt_val (pe_cg c_law_same hr (by decide) rfl pass0 (pa_cons (pv 9) (pa_cons (pv 8) pa_nil))))) (pw_or1 (pt_not (pt_val (pe_cg c_law_same hr (by decide) rfl pass0 (pa_cons (pe_cx c_const hr.toRoom (by decide) rfl pass0 (pa_cons (pe_ix ix_tup (pv 6) pe_int (fun _ _ => rfl)) (pa_cons (pv 4) pa_nil))) (pa_cons (pv 6) pa_nil))))))))
    (pss_one (ps_ret pe_bl))
    pss_nil)
    (pss_one (ps_ret (pe_cg c_law_same hr (by decide) rfl pass0 (pa_cons (pe_cx c_var hr.toRoom (by decide) rfl pass0 (pa_cons (pe_ix ix_list (pv 1) pe_int (fun _ _ => rfl)) (pa_cons (pv 4) pa_nil))) (pa_cons (pe_tup (pa_cons pe_str (pa_cons (pe_ix ix_list (pv 1) pe_int (fun _ _ => rfl)) (pa_cons (pv 4) pa_nil)))) pa_nil))))))))))))))), ?_⟩
  rw [show start ["pot", "words", "pool", "kinds", "kind", "part", "head", "line", "due", "told", "k"] [x0, x1, x2] = [some x0, some x1, some x2, none, none, none, none, none, none, none, none] from rfl]
  have ec0 : Str.ofString "const" = S [99,111,110,115,116] := S_ofs (by decide +kernel)
  have ec1 : Str.ofString "to" = S [116,111] := S_ofs (by decide +kernel)
  have ec2 : Str.ofString "var" = S [118,97,114] := S_ofs (by decide +kernel)
  have ec3 : Str.ofString "app" = S [97,112,112] := S_ofs (by decide +kernel)
  rw [ec0, ec1, ec2, ec3]
  obtain ⟨a, p, q, ws, rfl, rfl, rfl, hP, hW, hL, hQ⟩ := h
  obtain ⟨w0, w1, w2, w3, ews⟩ := hW.four
  have hpa : p ≠ a := hW.ne hP
  have hqa : q ≠ a := hL.ne hP (by omega)
  try dsimp only [cxOf]
  walk_at "v"
  refine ⟨_, _, rfl, a, 6, rfl, rfl, by omega, by omega, hP, fun v2 H2 hv2 P2 k2 => ?_⟩
  walk_at "v"
  refine w_rg1 (by omega) (by omega) ?_
  rw [show ((v2 : Int)).toNat = v2 from Int.toNat_natCast _]
  intro D hD
  have hDa : D ≠ a := P2.ne hD
  have hD0 : H D = none := fresh_kb P2 k2 hD
  refine lc_range (fun i H' => Pot a H' ∧ Kb a H H' ∧ ∃ ks : List Kd, DL H' D (ks.map Kd.d) ∧ ks.length = i ∧ ∀ k ∈ ks, k.ok ∧ k.sz ≤ 5) ⟨P2.same (same_upd hD), k2.then (same_upd hD), [], ⟨[], upd_same, .nil⟩, rfl, fun k hk => absurd hk List.not_mem_nil⟩ ?_ ?_
  · rintro i H' hi ⟨Pi, ki, ks, dk, hkl, hok⟩
    have hi : i < v2 := hi
    dsimp only [gName]
    refine ⟨rfl, ?_⟩
    walk_at "v"
    refine ⟨_, _, rfl, a, 4, rfl, rfl, by omega, by omega, Pi, fun v3 H3 hv3 P3 k3 => ?_⟩
    walk_at "v"
    refine (hL.kb hP (ki.tr k3) hqa).ix hv3 (fun xo ko oko szo txo => ?_)
    obtain ⟨xs, e, t⟩ := DLkb dk Pi k3 hDa
    have lx := t.len
    rw [List.length_map] at lx
    have ex : Ex D H3 (upd H3 D (.lst (xs ++ [xo]))) := fun b hb => upd_ne hb
    have tm := Tm.ex e ex
    refine ⟨_, e, szl (show _ ≤ 100000 by omega), P3.ex ex hDa.symm, (ki.tr k3).ex hD0 ex, ks ++ [ko], ⟨_, upd_same, ?_⟩, by rw [List.length_append, hkl]; rfl, fun k hk => ?_⟩
    · rw [List.map_append]; exact (t.tm tm).snoc (txo.tm tm)
    · rcases List.mem_append.mp hk with hk | hk
      · exact hok k hk
      · rw [List.mem_singleton.mp hk]; exact ⟨oko, szo⟩
  rintro H1 ⟨P1, k1, ks, dk, hkl, hok⟩
  walk_at "v"
  refine ⟨_, _, rfl, a, 4, rfl, rfl, by omega, by omega, P1, fun v4 H4 hv4 P4 k4 => ?_⟩
  walk_at "v"
  have k04 := k1.tr k4
  refine (hL.kb hP k04 hqa).ix hv4 (fun xk k5 ok5 sz5 tk5 => ?_)
  walk_at "v"
  obtain ⟨xs0, er0, tr0⟩ := DLkb dk P1 k4 hDa
  have lx0 : xs0.length = v2 := by rw [tr0.len, List.length_map, hkl]
  refine ⟨D, xs0, rfl, SqL.of er0, fun rp h5 => ?_⟩
  have s5 := same_upd (o := .lst xs0.reverse) h5
  have er := upd_same (H := H4) (a := rp) (o := .lst xs0.reverse)
  have tr := tr0.rev.tm (Tm.same s5)
  obtain ⟨xs, hxs⟩ : ∃ xs, xs = xs0.reverse := ⟨_, rfl⟩
  rw [← hxs] at s5 er tr ⊢
  obtain ⟨H5, hH5⟩ : ∃ H5, H5 = upd H4 rp (.lst xs) := ⟨_, rfl⟩
  rw [← hH5] at s5 er tr ⊢
  have lx : xs.length = v2 := by rw [hxs, List.length_reverse, lx0]
  refine w_lstI (SqL.of er) ?_
  refine for_list (xs := xs) (fun i σ H' => ∃ (u : V) (kd : Kd) (v5 : Option V), σ = [some (.ref a), some (.ref p), some (.ref q), some (.ref D), some u, v5, none, none, none, none, none] ∧ Same H5 H' ∧ TD H' u kd.d ∧ kd.ok ∧ kd.sz ≤ 5 + 6 * i)
    ⟨xk, k5, _, rfl, Same.refl' _, tk5.tm (Tm.same s5), ok5, by omega⟩ (fun i σ H' _ h => by obtain ⟨_, _, _, _, h, _⟩ := h; exact SqL.of (h _ _ er)) ?_ ?_
  · rintro i y σ G hy ⟨u, kd, v5, rfl, sg, tu, oku, szu⟩
    obtain ⟨d, ed, td⟩ := (tr.tm (Tm.same sg)).get' hy
    obtain ⟨k, hk, rfl⟩ : ∃ k ∈ ks, d = k.d := by
      have := List.mem_of_getElem? ed
      rw [List.mem_reverse] at this
      obtain ⟨k, h1, h2⟩ := List.mem_map.mp this
      exact ⟨k, h1, h2.symm⟩
    obtain ⟨o1, o2⟩ := hok k hk
    dsimp only [gName]
    walk_at "v"
    refine ev_go (d := Kd.d (.to k kd)) (by show Ev _ _ _ (.tuple [.str (S wTO), k.d, kd.d]); walk_at "d") (fun z G1 s1 t1 => ?_)
    walk_at "v"
    exact ⟨z, .to k kd, _, rfl, sg.tr s1, t1, ⟨o1, oku⟩, by show k.sz + kd.sz + 1 ≤ 5 + 6 * (i + 1); omega⟩
  rintro σ H6 ⟨xd, kd, v5, rfl, s6, td, okd, szd⟩
  rw [lx] at szd
  have gkd : GK kd := ⟨okd, by omega⟩
  have P6 := (P4.same s5).same s6
  have k06 := (k04.then s5).then s6
  walk_at "v"
  refine w_tupN ?_
  walk_at "v"
  refine ⟨_, _, rfl, a, 4, rfl, rfl, by omega, by omega, P6, fun v7 H7 hv7 P7 k7 => ?_⟩
  walk_at "v"
  refine (hW.kb hP (k06.tr k7) hpa).ix hv7 (fun wh nwh' => ?_)
  have nwh := nwh'.1
  walk_at "v"
  have td7 := td.tm (Kb.pot_tm P6 k7)
  refine t_new (ds := [.str (S wCONST), .str (S wh), kd.d]) (.cons (.str _) (.cons (.str _) (.cons td7 .nil))) (fun hp H8 hp8 s8 t8 => ?_)
  have P8 := P7.same s8
  have k08 := (k06.tr k7).then s8
  walk_at "v"
  have eD8 : H8 D = some (.lst xs0) := s8 _ _ (k7 _ _ hDa (s6 _ _ (s5 _ _ er0)))
  have tD8 : TDs H8 xs0 (ks.map Kd.d) := tr0.tm ((((Tm.same s5).tr (Tm.same s6)).tr (Kb.pot_tm P6 k7)).tr (Tm.same s8))
  refine w_lstI (SqL.of eD8) ?_
  intro D2 hD2
  have hDa2 : D2 ≠ a := P8.ne hD2
  have hD20 : H D2 = none := fresh_kb P8 k08 hD2
  have hDD : D ≠ D2 := fun z => by rw [← z, eD8] at hD2; cases hD2
  refine lc_list (xs := xs0) (fun i H' => Pot a H' ∧ Kb a H H' ∧ Tm H8 H' ∧ H' D = some (.lst xs0) ∧ ∃ ls : List (List Nat × Kd), DL H' D2 (trs (ls.map vT)) ∧ ls.length = i ∧ ∀ e ∈ ls, isName e.1 = true ∧ GK e.2)
    ⟨P8.same (same_upd hD2), k08.then (same_upd hD2), Tm.same (same_upd hD2), same_upd hD2 _ _ eD8, [], ⟨[], upd_same, .nil⟩, rfl, fun e he => absurd he List.not_mem_nil⟩ (fun i H' _ h => SqL.of h.2.2.2.1) ?_ ?_
  · rintro i y H' hy ⟨Pi, ki, ti, ei, ls, dl, hll, hlok⟩
    obtain ⟨d, ed, tdy⟩ := (tD8.tm ti).get' hy
    obtain ⟨k, hk, rfl⟩ : ∃ k ∈ ks, d = k.d := by
      obtain ⟨k, h1, h2⟩ := List.mem_map.mp (List.mem_of_getElem? ed)
      exact ⟨k, h1, h2.symm⟩
    obtain ⟨o1, o2⟩ := hok k hk
    have hil : i < v2 := by rw [← lx0]; exact (List.getElem?_eq_some_iff.mp hy).1
    dsimp only [gName]
    refine ⟨rfl, ?_⟩
    walk_at "v"
    refine w_tupN ?_
    walk_at "v"
    refine ⟨_, _, rfl, a, 4, rfl, rfl, by omega, by omega, Pi, fun v3 H3 hv3 P3 k3 => ?_⟩
    walk_at "v"
    refine (hW.kb hP (ki.tr k3) hpa).ix hv3 (fun wv nwv' => ?_)
    have nwv := nwv'.1
    walk_at "v"
    have tdy3 := tdy.tm (Kb.pot_tm Pi k3)
    refine t_new (ds := [.str (S wVAR), .str (S wv), k.d]) (.cons (.str _) (.cons (.str _) (.cons tdy3 .nil))) (fun vp G1 hvp s1 t1 => ?_)
    have t1 : TD G1 (.ref vp) (upT (vT (wv, k))).d := t1
    have dl1 := (DLkb dl Pi k3 hDa2).same s1
    obtain ⟨ys, ey, tys⟩ := dl1
    have lys := tys.len
    unfold trs at lys
    rw [List.length_map, List.length_map] at lys
    have ex : Ex D2 G1 (upd G1 D2 (.lst (ys ++ [.ref vp]))) := fun b hb => upd_ne hb
    have tm := Tm.ex ey ex
    refine ⟨_, ey, szl (show _ ≤ 100000 by omega), (P3.same s1).ex ex hDa2.symm, ((ki.tr k3).then s1).ex hD20 ex, ((ti.tr (Kb.pot_tm Pi k3)).tr (Tm.same s1)).tr tm, by rw [ex D hDD]; exact s1 _ _ (k3 _ _ hDa ei), ls ++ [(wv, k)], ⟨_, upd_same, ?_⟩, by rw [List.length_append, hll]; rfl, fun e he => ?_⟩
    · unfold trs
      rw [List.map_append, List.map_append]; exact (tys.tm tm).snoc (t1.tm tm)
    · rcases List.mem_append.mp he with he | he
      · exact hlok e he
      · rw [List.mem_singleton.mp he]; exact ⟨nwv, o1, by show k.sz ≤ 100; omega⟩
  rintro H9 ⟨P9, k09, t89, e9, ls, dl, hll, hlok⟩
  rw [lx0] at hll
  obtain ⟨gs, hgs⟩ : ∃ gs, gs = ls.map vT := ⟨_, rfl⟩
  rw [← hgs] at dl
  have hgl : gs.length ≤ 5 := by rw [hgs, List.length_map]; omega
  have hgo : ∀ x ∈ gs, x.gok ∧ smB x ∧ x.dep = 1 ∧ x.nodes = 1 := fun x hx => by
    rw [hgs] at hx
    obtain ⟨e, he, rfl⟩ := List.mem_map.mp hx
    exact vT_ok (hlok e he)
  obtain ⟨gh, hgh⟩ : ∃ gh : Gt, gh = .tip (.cst wh kd) := ⟨_, rfl⟩
  have okh : gh.gok := by rw [hgh]; exact ⟨.inl nwh, gkd⟩
  have th9 : TD H9 (.ref hp) (upT gh).d := by rw [hgh]; exact t8.tm t89
  have td9 := td7.tm ((Tm.same s8).tr t89)
  obtain ⟨f1, f2, f3, f4⟩ := fold_app_gok gs gh okh (by rw [hgh]; trivial) hgo
  have dh1 : gh.dep = 1 := by rw [hgh]; rfl
  have nh1 : gh.nodes = 1 := by rw [hgh]; rfl
  have swd := shw_tree f1 f2 (by omega) (by omega)
  walk_at "v"
  obtain ⟨ys, ey, tys⟩ := dl
  have lys : ys.length = gs.length := by rw [tys.len]; unfold trs; rw [List.length_map]
  refine w_lstI (SqL.of ey) ?_
  refine for_list (xs := ys) (fun i σ H' => ∃ (u : V) (v5 : Option V), σ = [some (.ref a), some (.ref p), some (.ref q), some (.ref D), some xd, v5, some (.ref hp), some (.ref D2), some u, none, none] ∧ Same H9 H' ∧ TD H' u (upT ((gs.take i).foldl Tr.app gh)).d)
    ⟨_, _, rfl, Same.refl' _, th9⟩ (fun i σ H' _ h => by obtain ⟨_, _, _, h, _⟩ := h; exact SqL.of (h _ _ ey)) ?_ ?_
  · rintro i y σ G hy ⟨u, v5, rfl, sg, tu⟩
    obtain ⟨d, ed, tdy⟩ := (tys.tm (Tm.same sg)).get' hy
    have hil : i < gs.length := by rw [← lys]; exact (List.getElem?_eq_some_iff.mp hy).1
    have ei := List.getElem?_eq_getElem hil
    generalize gs[i] = r at ei
    have edr : d = (upT r).d := by
      unfold trs at ed
      rw [List.getElem?_map, ei] at ed
      exact (Option.some.inj ed).symm
    subst edr
    dsimp only [gName]
    walk_at "v"
    refine ev_go (d := (upT (.app ((gs.take i).foldl Tr.app gh) r)).d) (by show Ev _ _ _ (.tuple [.str (S wAPP), (upT ((gs.take i).foldl Tr.app gh)).d, (upT r).d]); walk_at "d") (fun z G1 s1 t1 => ?_)
    walk_at "v"
    refine ⟨z, _, rfl, sg.tr s1, ?_⟩
    rw [List.take_add_one, ei, List.foldl_append]; exact t1
  rintro σ Ha ⟨xdue, v5', rfl, sa, tdue⟩
  rw [lys, List.take_length] at tdue
  have sa0 := sa
  walk_at "v"
  have tha := th9.tm (Tm.same sa)
  refine ⟨gh, [], _, [], rfl, tha, .nil, by simp, fun u Hb sb tb => ?_⟩
  have tb : TD Hb u (upT gh).d := tb
  walk_at "v"
  have s9b := sa.tr sb
  have dlb : DL Hb D2 (trs gs) := ⟨ys, s9b _ _ ey, tys.tm (Tm.same s9b)⟩
  have thb := th9.tm (Tm.same s9b)
  refine w_mid (fun σ H' => ∃ (u : V), σ = [some (.ref a), some (.ref p), some (.ref q), some (.ref D), some xd, v5', some (.ref hp), some (.ref D2), some xdue, some u, none] ∧ Same Hb H' ∧ TD H' u (upT (gs.foldl Tr.app gh)).d) ?_ ?_
  · have lnb : ∀ {Q : VK}, Q (.int (gs.length : Int)) Hb → rLenQ K [.ref D2] Hb Q := fun {Q} k => l_len dlb (by unfold trs; rw [List.length_map]; exact k)
    walk_at "v"
    refine lnb ?_
    walk_at "v"
    refine w_dec (fun hb => ?_) (fun hb1 => ?_)
    · walk_at "v"
      obtain ⟨g0, rfl⟩ : ∃ g0, gs = [g0] := by
        have hn : gs.length = 1 := by omega
        exact len1 hn
      refine l_ix (n := 0) dlb rfl (fun y0 ty0 => ?_)
      walk_at "v"
      refine ⟨gh, [g0], _, [y0], rfl, thb, .cons ty0 (.nil), by simp, fun u2 Hc sc tc => ?_⟩
      walk_at "v"
      exact ⟨_, rfl, sc, tc⟩
    · walk_at "v"
      refine lnb ?_
      walk_at "v"
      refine w_dec (fun hb => ?_) (fun hb2 => ?_)
      · walk_at "v"
        obtain ⟨g0, g1, rfl⟩ : ∃ g0 g1, gs = [g0, g1] := by
          have hn : gs.length = 2 := by omega
          exact len2 hn
        refine l_ix (n := 0) dlb rfl (fun y0 ty0 => ?_)
        walk_at "v"
        refine l_ix (n := 1) dlb rfl (fun y1 ty1 => ?_)
        walk_at "v"
        refine ⟨gh, [g0, g1], _, [y0, y1], rfl, thb, .cons ty0 (.cons ty1 (.nil)), by simp, fun u2 Hc sc tc => ?_⟩
        walk_at "v"
        exact ⟨_, rfl, sc, tc⟩
      · walk_at "v"
        refine lnb ?_
        walk_at "v"
        refine w_dec (fun hb => ?_) (fun hb3 => ?_)
        · walk_at "v"
          obtain ⟨g0, g1, g2, rfl⟩ : ∃ g0 g1 g2, gs = [g0, g1, g2] := by
            have hn : gs.length = 3 := by omega
            exact len3 hn
          refine l_ix (n := 0) dlb rfl (fun y0 ty0 => ?_)
          walk_at "v"
          refine l_ix (n := 1) dlb rfl (fun y1 ty1 => ?_)
          walk_at "v"
          refine l_ix (n := 2) dlb rfl (fun y2 ty2 => ?_)
          walk_at "v"
          refine ⟨gh, [g0, g1, g2], _, [y0, y1, y2], rfl, thb, .cons ty0 (.cons ty1 (.cons ty2 (.nil))), by simp, fun u2 Hc sc tc => ?_⟩
          walk_at "v"
          exact ⟨_, rfl, sc, tc⟩
        · walk_at "v"
          refine lnb ?_
          walk_at "v"
          refine w_dec (fun hb => ?_) (fun hb4 => ?_)
          · walk_at "v"
            obtain ⟨g0, g1, g2, g3, rfl⟩ : ∃ g0 g1 g2 g3, gs = [g0, g1, g2, g3] := by
              have hn : gs.length = 4 := by omega
              exact len4 hn
            refine l_ix (n := 0) dlb rfl (fun y0 ty0 => ?_)
            walk_at "v"
            refine l_ix (n := 1) dlb rfl (fun y1 ty1 => ?_)
            walk_at "v"
            refine l_ix (n := 2) dlb rfl (fun y2 ty2 => ?_)
            walk_at "v"
            refine l_ix (n := 3) dlb rfl (fun y3 ty3 => ?_)
            walk_at "v"
            refine ⟨gh, [g0, g1, g2, g3], _, [y0, y1, y2, y3], rfl, thb, .cons ty0 (.cons ty1 (.cons ty2 (.cons ty3 (.nil)))), by simp, fun u2 Hc sc tc => ?_⟩
            walk_at "v"
            exact ⟨_, rfl, sc, tc⟩
          · walk_at "v"
            refine lnb ?_
            walk_at "v"
            refine w_dec (fun hb => ?_) (fun hb5 => ?_)
            · walk_at "v"
              obtain ⟨g0, g1, g2, g3, g4, rfl⟩ : ∃ g0 g1 g2 g3 g4, gs = [g0, g1, g2, g3, g4] := by
                have hn : gs.length = 5 := by omega
                exact len5 hn
              refine l_ix (n := 0) dlb rfl (fun y0 ty0 => ?_)
              walk_at "v"
              refine l_ix (n := 1) dlb rfl (fun y1 ty1 => ?_)
              walk_at "v"
              refine l_ix (n := 2) dlb rfl (fun y2 ty2 => ?_)
              walk_at "v"
              refine l_ix (n := 3) dlb rfl (fun y3 ty3 => ?_)
              walk_at "v"
              refine l_ix (n := 4) dlb rfl (fun y4 ty4 => ?_)
              walk_at "v"
              refine ⟨gh, [g0, g1, g2, g3, g4], _, [y0, y1, y2, y3, y4], rfl, thb, .cons ty0 (.cons ty1 (.cons ty2 (.cons ty3 (.cons ty4 (.nil))))), by simp, fun u2 Hc sc tc => ?_⟩
              walk_at "v"
              exact ⟨_, rfl, sc, tc⟩
            · walk_at "v"
              have hn : gs = [] := List.length_eq_zero_iff.mp (by omega)
              subst hn
              exact ⟨u, rfl, Same.refl' _, tb⟩
  rintro σ Hc ⟨xt, rfl, sc, tt⟩
  walk_at "v"
  have sbc := sb.tr sc
  have s9c := sa.tr sbc
  refine same_of tt (tdue.tm (Tm.same sbc)) swd ?_
  walk_at "v"
  have thc : TD Hc (.ref hp) (.tuple [.str (S wCONST), .str (S wh), kd.d]) := by have := th9.tm (Tm.same s9c); rw [hgh] at this; exact this
  have tdc := td9.tm (Tm.same s9c)
  refine t_ixS (n := 1) thc rfl ?_
  walk_at "v"
  refine ⟨_, _, rfl, wh, kd, rfl, tdc, fun u2 Hd sd tu2 => ?_⟩
  walk_at "v"
  refine same_of (r := .tip (.cst wh kd)) tu2 (thc.tm (Tm.same sd)) (shw_tree ⟨.inl nwh, gkd⟩ trivial (by show 1 ≤ 130; omega) (by show 1 ≤ 700; omega)) ?_
  walk_at "v"
  have k0d := (k09.then s9c).then sd
  have Pd := (P9.same s9c).same sd
  refine (hW.kb hP k0d hpa).at_ (i := 0) (w := w0) (by rw [ews]; rfl) (fun nw0 => ?_)
  walk_at "v"
  have tdd := tdc.tm (Tm.same sd)
  refine ⟨_, _, rfl, w0, kd, rfl, tdd, fun u3 He se tu3 => ?_⟩
  walk_at "v"
  refine w_tupN ?_
  walk_at "v"
  have k0e := k0d.then se
  have Pe := Pd.same se
  refine (hW.kb hP k0e hpa).at_ (i := 0) (w := w0) (by rw [ews]; rfl) (fun _ => ?_)
  walk_at "v"
  refine t_new (ds := [.str (S wVAR), .str (S w0), kd.d]) (.cons (.str _) (.cons (.str _) (.cons (tdd.tm (Tm.same se)) .nil))) (fun vp Hf hvp sf tf => ?_)
  walk_at "v"
  exact same_of (r := .tip (.var w0 kd)) (tu3.tm (Tm.same sf)) tf (shw_tree ⟨nw0, gkd⟩ trivial (by show 1 ≤ 130; omega) (by show 1 ≤ 700; omega)) (hQ Hf (Pe.same sf) (k0e.then sf))
end
end K01

namespace K01
open PySem PySem.Spec PyProof.Rows L2 SX K02
local macro_rules | `(tactic| walk_at "w1") => `(tactic| (first
  | with_reducible refine w_seq ?_ | with_reducible refine w_asgN ?_ | with_reducible refine w_c ?_
  | ((with_reducible refine' w_var ?wv ?_); (case wv => exact rfl))
  | with_reducible refine w_op ?_ | with_reducible refine w_un ?_ | with_reducible refine w_next ?_ | with_reducible refine w_brk ?_ | with_reducible refine w_cnt ?_
  | with_reducible refine w_ifS ?_ | with_reducible refine w_if ?_ | with_reducible refine w_test ?_ | with_reducible refine w_tB ?_ | with_reducible refine w_bl ?_ | with_reducible refine w_blI ?_
  | with_reducible refine w_and ?_ | with_reducible refine w_or ?_ | with_reducible refine w_not ?_ | with_reducible refine w_andV ?_ | with_reducible refine w_orV ?_ | with_reducible refine w_notV ?_
  | with_reducible refine w_nil ?_ | with_reducible refine w_cons ?_ | with_reducible refine w_cb ?_ | with_reducible refine w_call ?_ | with_reducible refine w_callS ?_ | with_reducible refine w_chain ?_
  | with_reducible refine w_tupN ?_ | with_reducible refine w_lstN ?_ | with_reducible refine w_sl ?_ | with_reducible refine w_noPart ?_ | with_reducible refine w_part ?_ | with_reducible refine w_partI ?_
  | with_reducible refine w_ret ?_ | with_reducible refine w_retN ?_ | with_reducible refine w_drop ?_ | with_reducible refine w_asg ?_ | with_reducible refine w_gSub ?_
  | ((with_reducible refine' w_aug ?wv ?_); (case wv => exact rfl)) | with_reducible refine w_ipI ?_
  | with_reducible refine w_addI ?_ | with_reducible refine w_subI ?_ | with_reducible refine w_ltI ?_ | with_reducible refine w_leI ?_ | with_reducible refine w_gtI ?_ | with_reducible refine w_geI ?_
  | with_reducible refine w_eqI ?_ | with_reducible refine w_neI ?_ | with_reducible refine w_eqT ?_ | with_reducible refine w_neT ?_ | with_reducible refine w_inS ?_ | with_reducible refine w_ninS ?_
  | with_reducible refine w_absI ?_ | with_reducible refine w_intI ?_ | with_reducible refine w_maxI ?_ | with_reducible refine w_minI ?_
  | with_reducible refine w_for ?_ | with_reducible refine w_iR1 ?_ | with_reducible refine w_iR2 ?_ | with_reducible refine w_iStr ?_ | with_reducible refine w_strI ?_ | with_reducible refine w_iList ?_ | with_reducible refine w_iTup ?_
  | with_reducible refine w_bm ?_ | with_reducible refine w_bm0 ?_ | with_reducible refine w_t ?_ | with_reducible refine w_f ?_ | with_reducible refine w_nt ?_ | with_reducible refine w_nx ?_ | with_reducible refine w_rt ?_ | with_reducible refine w_bk ?_ | with_reducible refine w_ct ?_ | with_reducible refine w_nf ?_ | with_reducible refine w_lc ?_ | with_reducible refine w_yes ?_ | with_reducible refine w_neg ?_ | with_reducible refine w_intB ?_ | with_reducible refine w_fld ?_ | with_reducible refine w_setf ?_ | with_reducible refine w_faug ?_ | with_reducible refine w_meth ?_ | with_reducible refine w_bmS ?_ | with_reducible refine w_start ?_ | with_reducible refine w_revL ?_ | with_reducible refine w_iR3 ?_))
local macro_rules | `(tactic| walk_at "w") => `(tactic| (repeat (first | walk_at "w1" | dsimp (config := { proj := false }) only [List.set_cons_zero, List.set_cons_succ])))
section
variable {w : World} {K : PySem.W.Frag} {mg : Str → Option Value} {base : Heap}
local macro_rules | `(tactic| walk_at "v1") => `(tactic| (first
  | with_reducible refine w_seq ?_ | with_reducible refine w_asgN ?_ | with_reducible refine w_c ?_
  | ((with_reducible refine' w_var ?wv ?_); (case wv => exact rfl))
  | with_reducible refine w_op ?_ | with_reducible refine w_un ?_ | with_reducible refine w_next ?_ | with_reducible refine w_brk ?_ | with_reducible refine w_cnt ?_
  | with_reducible refine w_ifS ?_ | with_reducible refine w_if ?_ | with_reducible refine w_test ?_ | with_reducible refine w_tB ?_ | with_reducible refine w_bl ?_ | with_reducible refine w_blI ?_
  | with_reducible refine w_and ?_ | with_reducible refine w_or ?_ | with_reducible refine w_not ?_ | with_reducible refine w_andV ?_ | with_reducible refine w_orV ?_ | with_reducible refine w_notV ?_
  | with_reducible refine w_nil ?_ | with_reducible refine w_cons ?_ | with_reducible refine w_cb ?_ | with_reducible refine w_call ?_ | with_reducible refine w_callS ?_ | with_reducible refine w_chain ?_
  | with_reducible refine w_sl ?_ | with_reducible refine w_noPart ?_ | with_reducible refine w_part ?_ | with_reducible refine w_partI ?_
  | with_reducible refine w_ret ?_ | with_reducible refine w_retN ?_ | with_reducible refine w_drop ?_ | with_reducible refine w_asg ?_ | with_reducible refine w_gSub ?_
  | ((with_reducible refine' w_aug ?wv ?_); (case wv => exact rfl)) | with_reducible refine w_ipI ?_
  | with_reducible refine w_addI ?_ | with_reducible refine w_subI ?_ | with_reducible refine w_ltI ?_ | with_reducible refine w_leI ?_ | with_reducible refine w_gtI ?_ | with_reducible refine w_geI ?_
  | with_reducible refine w_eqI ?_ | with_reducible refine w_neI ?_ | with_reducible refine w_eqT ?_ | with_reducible refine w_neT ?_ | with_reducible refine w_inS ?_ | with_reducible refine w_ninS ?_
  | with_reducible refine w_absI ?_ | with_reducible refine w_intI ?_ | with_reducible refine w_maxI ?_ | with_reducible refine w_minI ?_
  | with_reducible refine w_for ?_ | with_reducible refine w_iR1 ?_ | with_reducible refine w_iR2 ?_ | with_reducible refine w_iStr ?_ | with_reducible refine w_strI ?_ | with_reducible refine w_iList ?_ | with_reducible refine w_iTup ?_
  | with_reducible refine w_bm ?_ | with_reducible refine w_bm0 ?_ | with_reducible refine w_t ?_ | with_reducible refine w_f ?_ | with_reducible refine w_nt ?_ | with_reducible refine w_nx ?_ | with_reducible refine w_rt ?_ | with_reducible refine w_bk ?_ | with_reducible refine w_ct ?_ | with_reducible refine w_nf ?_ | with_reducible refine w_lc ?_ | with_reducible refine w_yes ?_ | with_reducible refine w_neg ?_ | with_reducible refine w_intB ?_ | with_reducible refine w_fld ?_ | with_reducible refine w_setf ?_ | with_reducible refine w_faug ?_ | with_reducible refine w_meth ?_ | with_reducible refine w_bmS ?_ | with_reducible refine w_start ?_ | with_reducible refine w_revL ?_ | with_reducible refine w_iR3 ?_))
local macro_rules | `(tactic| walk_at "v") => `(tactic| (repeat (first | walk_at "v1" | dsimp (config := { proj := false }) only [List.set_cons_zero, List.set_cons_succ])))
local macro_rules | `(tactic| walk_at "d") => `(tactic| (repeat (first | exact eva_nil | refine eva_cons ?_ ?_ | exact ev_str | exact ev_int | exact ev_neg | refine ev_tup ?_ | (refine ev_var rfl ?_; assumption))))


theorem ne_lst_dk {H : Hp} {a p : Addr} {xs : List V} {kvs : List (Key × V)} (hp : H p = some (.lst xs)) (ha : H a = some (.dK kvs)) : p ≠ a := fun z => by rw [z, ha] at hp; cases hp
theorem FD.exD {H H' : Hp} {a : Addr} {kv kvs : List (Key × V)} {n : Nat} {fb : Tb (Kd × List G2)} (h : FD H kvs n fb) (ha : H a = some (.dK kv)) (x : Ex a H H') : FD H' kvs n fb :=
  ⟨h.1, h.2.1, fun w => (h.2.2 w).imp id fun ⟨b, y, p, k, c, h1, h2, h3, h4, h5⟩ => ⟨b, y, p, k, c, h1, h2, Tm.exK ha x _ _ h3, h4.tm (Tm.exK ha x), by
    obtain ⟨xs, e, t⟩ := h5
    exact ⟨xs, by rw [x p (ne_lst_dk e ha)]; exact e, t.tm (Tm.exK ha x)⟩⟩⟩
def treeOf (c : List G2) : Gt := (fo c).headD (.tip (.bnd 0))
def ttOf (fb : Tb (Kd × List G2)) : Tb (Kd × Gt) := fun w => (fb w).map fun e => (e.1, treeOf e.2)
theorem tt_at {fb : Tb (Kd × List G2)} {D : Nat} (h : FbOk D fb) {w : List Nat} {k : Kd} {c : List G2} (e : fb w = some (k, c)) : fok c ∧ fo c = [treeOf c] ∧ ttOf fb w = some (k, treeOf c) ∧ (treeOf c).gok ∧ typed (treeOf c) [] = some k ∧ (treeOf c).nodes = c.length ∧ (treeOf c).dep ≤ D := by
  obtain ⟨q1, q2, q3, q4, q5⟩ := h w k c e
  obtain ⟨t, h1, h2, h3⟩ := q2.one
  have et : treeOf c = t := by unfold treeOf; rw [h2]; rfl
  rw [et]
  exact ⟨h1, h2, by unfold ttOf; rw [e]; show some (k, treeOf c) = _; rw [et], gok_of h1 h2 q3, h3, fo_nodes1 h1 h2, q5 t h2⟩
theorem tt_ok {fb : Tb (Kd × List G2)} {D : Nat} (h : FbOk D fb) (hD : D ≤ 130) : TtOk (ttOf fb) := fun w k t e => by
  unfold ttOf at e
  obtain ⟨⟨k', c⟩, e1, e2⟩ := Option.map_eq_some_iff.mp e
  cases e2
  obtain ⟨a1, a2, a3, a4, a5, a6, a7⟩ := tt_at h e1
  have := (h w k' c e1).2.2.2.1
  have a7 : (treeOf c).dep ≤ D := a7
  exact ⟨(h w k' c e1).1, a5, by show (treeOf c).dep ≤ 130; omega, by show (treeOf c).nodes ≤ 500; rw [a6]; omega⟩
theorem putL_at {fb : Tb (Kd × List G2)} {D : Nat} (h : FbOk D fb) (l : Nat) (x : Lf) : putL (ttOf fb) l x = .tip x ∨ ∃ w k c, fb w = some (k, c) ∧ putL (ttOf fb) l x = treeOf c := by
  cases x with
  | bnd i => exact .inl rfl
  | cst w k => exact .inl rfl
  | var w k =>
    by_cases z : ∃ c, fb w = some (k, c)
    · obtain ⟨c, e⟩ := z
      exact .inr ⟨w, k, c, e, put_hit (tt_at h e).2.2.1⟩
    · refine .inl (put_miss fun t e => z ?_)
      unfold ttOf at e
      obtain ⟨⟨k', c⟩, e1, e2⟩ := Option.map_eq_some_iff.mp e
      cases e2
      exact ⟨c, e1⟩
open Classical in
noncomputable def builtF (fb : Tb (Kd × List G2)) (ks : List Key) : Tb PyData := fun w => if (Sum.inr (S w) : Key) ∈ ks then (ttOf fb w).map fun e => (upT e.2).d else none
theorem builtF_snoc {fb : Tb (Kd × List G2)} {ks : List Key} {w : List Nat} {k : Kd} {t : Gt} (e : ttOf fb w = some (k, t)) : builtF fb (ks ++ [Sum.inr (S w)]) = setT (builtF fb ks) w (upT t).d := by
  funext w'
  unfold setT
  by_cases z : w' = w
  · subst z
    rw [if_pos rfl]
    unfold builtF
    rw [if_pos (by simp), e]; rfl
  · rw [if_neg z]
    unfold builtF
    have : (Sum.inr (S w') : Key) ∈ ks ++ [Sum.inr (S w)] ↔ (Sum.inr (S w') : Key) ∈ ks := by
      rw [List.mem_append, List.mem_singleton, inrS]
      exact ⟨fun h => h.resolve_right z, .inl⟩
    by_cases y : (Sum.inr (S w') : Key) ∈ ks
    · rw [if_pos (this.mpr y), if_pos y]
    · rw [if_neg (fun h => y (this.mp h)), if_neg y]
def sp_law_ask_put : Sp := sp2 fun x y H Q _ => ∃ (p a : Addr) (c : List G2) (t : Gt) (kvs : List (Key × V)) (n D : Nat) (fb : Tb (Kd × List G2)), x = .ref p ∧ y = .ref a ∧ DL H p (gd c) ∧ fok c ∧ fo c = [t] ∧ (∀ r ∈ c, r.gok) ∧ c.length ≤ 450 ∧ t.dep + D ≤ 130 ∧ inScope t 0 = true ∧
  H a = some (.dK kvs) ∧ FD H kvs n fb ∧ n ≤ 4000 ∧ FbOk D fb ∧ ∀ H', Same H H' → Q (.bl true) H'
theorem ok_law_ask_put (T : Txt w K mg) {fd : FuncData} (F : Fn_law_ask_put K fd) (hm : mg "_law_ask_put" = some (.ref (He.ga K "_law_ask_put"))) (c_law_built : CalX P w K mg base CX0 1 "_law_built" sp_law_built)(c_law_told_put : CalX P w K mg base CX0 133 "_law_told_put" sp_law_told_put)(c_law_right : CalG P w K mg base CX0 2 "_law_right" sp_law_right)(c_law_put : CalX P w K mg base CX0 1 "_law_put" sp_law_put) : CalG P w K mg base CX0 134 "_law_ask_put" sp_law_ask_put := by
  refine calg0 (k := 133) F hm sc_law_ask_put (b_law_ask_put F) (fun _ _ _ _ h => sp2_len h) (fun cdv A outer s H vs Q E hr h => ?_)
  obtain ⟨x0, x1, rfl, h⟩ := h
  refine ⟨_, (pss_cons (ps_set (i := 2) sc_law_ask_put.nd rfl (Or.inl rfl) pe_dnewK)
    (pss_cons (ps_lock (ps_for PassesOwn.never rfl (pi_keys (pv 1)) (pg_name (i := 3) sc_law_ask_put.nd rfl (Or.inl rfl))
    (pss_one (ps_asg (pe_cx c_law_built hr.toRoom (by decide) rfl pass0 (pa_cons (pe_ix ix_tup (pe_dget (hu_of hr.toRoom) (pv 1) (pv 3) (fun _ _ => rfl)) pe_int (fun _ _ => rfl)) pa_nil)) (pg_sub (pv 2) (pv 3) (set_dict (hu_of hr.toRoom)))))))
    (pss_cons (ps_set (i := 4) sc_law_ask_put.nd rfl (Or.inl rfl) (pe_callTy call_dictC (by rfl) T.f_dict (by decide +kernel) (pa_cons (pv 2) pa_nil)))
    (pss_cons (ps_set (i := 5) sc_law_ask_put.nd rfl (Or.inl rfl) (pe_cx c_law_told_put hr.toRoom (by decide) rfl pass0 (pa_cons (pe_cx c_law_built hr.toRoom (by decide) rfl pass0 (pa_cons (pv 0) pa_nil)) (pa_cons (pv 4) pa_nil))))
    (pss_cons (ps_if (pt_cmpR (op_neDC (un_of hr.toRoom)) (pv 4) (pv 2) (nomark _))
    (pss_one (ps_ret pe_bl))
    pss_nil)
    (pss_one (ps_ret (pe_cg c_law_right hr (by decide) rfl pass0 (pa_cons (pv 5) (pa_cons (pe_cx c_law_put hr.toRoom (by decide) rfl pass0 (pa_cons (pv 0) (pa_cons (pv 1) pa_nil))) pa_nil)))))))))), ?_⟩
  rw [show start ["code", "fills", "table", "word", "given", "told"] [x0, x1] = [some x0, some x1, none, none, none, none] from rfl]
  obtain ⟨p, a, c, t, kvs, n, D, fb, rfl, rfl, hd, hok, hfo, hg, hz, hdp, hsc, ha, hf, hn, hfb, hQ⟩ := h
  try dsimp only [cxOf]
  walk_at "v"
  have gt := gok_of hok hfo hg
  have hnt := fo_nodes1 hok hfo
  have dp1 := t.dep_pos
  have htt := tt_ok hfb (by omega)
  refine w_dnew (fun ta H1 hta0 s1 e1 => ?_)
  walk_at "v"
  have hta : ta ≠ a := fun z => by rw [z, ha] at hta0; cases hta0
  refine w_lock (s1 _ _ ha) (fun od => ?_)
  obtain ⟨Hf, hHf⟩ : ∃ Hf, Hf = upd H a (.frz od (.dK kvs)) := ⟨_, rfl⟩
  have xf : Ex a H Hf := fun b hb => by rw [hHf]; exact upd_ne hb
  have ef : Hf a = some (.frz od (.dK kvs)) := by rw [hHf]; exact upd_same
  have fdf := hf.exD ha xf
  have hta1 : Hf ta = none := by rw [xf ta hta]; exact hta0
  have sf : Same Hf (upd H1 a (.frz od (.dK kvs))) := fun b o e => by
    by_cases z : b = a
    · subst z; rw [ef] at e; rw [upd_same]; exact e
    · rw [xf b z] at e; rw [upd_ne z]; exact s1 _ _ e
  have etf : upd H1 a (.frz od (.dK kvs)) ta = some (.dK []) := by rw [upd_ne hta]; exact e1
  generalize upd H1 a (.frz od (.dK kvs)) = Hs at sf etf
  refine w_for ?_
  refine w_iKeys ?_
  refine w_var rfl ⟨a, od, rfl, .inl ⟨kvs, sf _ _ ef, ?_⟩⟩
  refine for_keys (fun i σ H' => ∃ (kv : List (Key × V)) (v3 : Option V), σ = [some (.ref p), some (.ref a), some (.ref ta), v3, none, none] ∧ Same Hf H' ∧ H' ta = some (.dK kv) ∧ DOk H' kv i (builtF fb ((kvs.map (·.1)).take i)))
    ⟨[], _, rfl, sf, etf, DOk.nil.ext fun w => by rw [List.take_zero]; unfold builtF; rw [if_neg List.not_mem_nil]⟩ (fun i σ H' h => by obtain ⟨_, _, _, h, _⟩ := h; exact h _ _ ef) ?_ ?_
  · rintro i k v σ G hkv ⟨kv, v3, rfl, sg, et, dt⟩
    have hmem := List.mem_of_getElem? hkv
    obtain ⟨w, ew⟩ := hf.2.1 _ hmem
    have ew : k = Sum.inr (S w) := ew
    subst ew
    have hil : i < kvs.length := (List.getElem?_eq_some_iff.mp hkv).1
    have htk : (kvs.map (·.1)).take (i + 1) = (kvs.map (·.1)).take i ++ [Sum.inr (S w)] := by
      rw [List.take_add_one, List.getElem?_map, hkv]; rfl
    obtain ⟨v', hv'⟩ := valV_mem.mpr (List.mem_map.mpr ⟨_, hmem, rfl⟩)
    have hv' : valV kvs (Sum.inr (S w)) = some v' := hv'
    rcases (fdf.same sg).2.2 w with ⟨h1, h2⟩ | ⟨b, y, q, k, v, h1, h2, h3, h4, h5⟩
    · rw [h1] at hv'; cases hv'
    obtain ⟨a1, a2, a3, a4, a5, a6, a7⟩ := tt_at hfb h2
    have hvl := (hfb w k v h2).2.2.2.1
    dsimp only [gName]
    walk_at "v"
    refine w_dget ?_
    walk_at "v"
    refine k_getR (k := Sum.inr (S w)) (.inr ⟨od, sg _ _ ef⟩) h1 ?_
    walk_at "v"
    refine w_ixU (n := 1) (SqT.of h3) rfl ?_
    walk_at "v"
    refine ⟨_, rfl, q, v, _, rfl, h5, a1, a2, by omega, fun u H3 s3 t3 => ?_⟩
    walk_at "v"
    have et3 := s3 _ _ et
    refine k_put (k := Sum.inr (S w)) et3 (by have := dt.1; have := hf.1; omega) (fun H4 e4 x4 => ?_)
    have tm4 := Tm.exK et3 x4
    refine ⟨_, _, rfl, (sg.tr s3).ex hta1 x4, e4, ?_⟩
    rw [htk, builtF_snoc a3]
    exact DOk.put (dt.tm ((Tm.same s3).tr tm4)) (t3.tm tm4)
  · rintro σ G ⟨kv, v3, rfl, sg, et, dt⟩
    refine ⟨sg _ _ ef, ?_⟩
    rw [List.take_of_length_le (by rw [List.length_map]; exact Nat.le_refl _)] at dt
    have dt : DT G kv kvs.length (ttOf fb) (fun e => (upT e.2).d) := dt.ext fun w => by
      unfold builtF
      by_cases z : (Sum.inr (S w) : Key) ∈ kvs.map (·.1)
      · rw [if_pos z]
      · rw [if_neg z]
        rcases hf.2.2 w with ⟨h1, h2⟩ | ⟨b, y, q, k, v, h1, _⟩
        · unfold ttOf; rw [h2]; rfl
        · exact absurd (valV_mem.mp ⟨_, h1⟩) z
    obtain ⟨H2, hH2⟩ : ∃ H2, H2 = upd G a (.dK kvs) := ⟨_, rfl⟩
    rw [← hH2]
    have s2 : Same H H2 := fun b o e => by
      rw [hH2]
      by_cases z : b = a
      · subst z; rw [upd_same]; rw [ha] at e; exact e
      · rw [upd_ne z]; exact sg _ _ (by rw [xf b z]; exact e)
    have e2 : H2 ta = some (.dK kv) := by rw [hH2, upd_ne hta]; exact et
    have tg2 : Tm G H2 := fun b xs e => by
      rw [hH2, upd_ne (fun z => by rw [z, sg _ _ ef] at e; cases e)]; exact e
    have d2 : DT H2 kv kvs.length (ttOf fb) (fun e => (upT e.2).d) := DOk.tm dt tg2
    walk_at "v"
    refine w_dictC e2 (fun ga H3 hga s3 e3 => ?_)
    walk_at "v"
    have s03 := s2.tr s3
    refine ⟨_, rfl, p, c, t, rfl, hd.same s03, hok, hfo, by omega, fun xt H4 s4 t4 => ?_⟩
    walk_at "v"
    have s04 := s03.tr s4
    refine ⟨_, _, rfl, t, ga, kv, kvs.length, ttOf fb, t4, rfl, s4 _ _ e3, DOk.tm d2 (Tm.same (s3.tr s4)), htt, gt, by omega, by omega, fun u H5 s5 t5 => ?_⟩
    walk_at "v"
    have s05 := s04.tr s5
    have s25 := (s3.tr s4).tr s5
    refine ⟨⟨ga, ta, kv, rfl, rfl, s5 _ _ (s4 _ _ e3), s25 _ _ e2, d2.2.1⟩, ?_⟩
    walk_at "v"
    refine ⟨_, _, rfl, p, a, c, kvs, n, D, fb, rfl, rfl, hd.same s05, s05 _ _ ha, hf.same s05, hfb, hg, by omega, fun q H6 hq s6 dq => ?_⟩
    walk_at "v"
    have s06 := s05.tr s6
    obtain ⟨f1, f2⟩ := fo_sub1 (putC_ok (tb := fb) (tt := ttOf fb) (fun w => by
      cases e : fb w with
      | none => exact .inl ⟨rfl, by unfold ttOf; rw [e]; rfl⟩
      | some kc =>
        obtain ⟨k, c'⟩ := kc
        obtain ⟨a1, a2, a3, _⟩ := tt_at hfb e
        exact .inr ⟨k, c', _, rfl, a3, a1, a2⟩)) hok hfo
    have l1 : (subC (putC fb) c [0]).length ≤ c.length * 100 := len_subC (by omega) (fun l x => by
      rw [putC_lv fb l 0]; exact rowP_len hfb (.tip x)) c [0]
    have sm0 : smB t := smB_scope t 0 hsc (by omega)
    refine ⟨_, _, rfl, q, _, _, rfl, dq, f1, f2, by omega, fun _ => ⟨?_, ?_, ?_⟩, t5.tm (Tm.same s6), fun H7 s7 => hQ H7 (s06.tr s7)⟩
    · refine gok_sub (fun l x hx => ?_) t 0 gt
      rcases putL_at hfb l x with h | ⟨w, k, c', h1, h2⟩
      · rw [h]; exact hx
      · rw [h2]; exact (tt_at hfb h1).2.2.2.1
    · refine smB_sub 999 (fun l x hl hx => ?_) t 0 sm0 (by omega)
      rcases putL_at hfb l x with h | ⟨w, k, c', h1, h2⟩
      · rw [h]; exact hx
      · rw [h2]
        obtain ⟨a1, a2, a3, a4, a5, a6, a7⟩ := tt_at hfb h1
        exact smB_scope _ 0 (typed_scope a5) (by omega)
    · have := dep_sub (f := putL (ttOf fb)) (D := D) (fun l x => by
        rcases putL_at hfb l x with h | ⟨w, k, c', h1, h2⟩
        · rw [h]; show 1 ≤ D + 1; omega
        · rw [h2]; have := (tt_at hfb h1).2.2.2.2.2.2; omega) t 0
      omega
end
end K01

namespace K01
open PySem PySem.Spec PyProof.Rows L2 SX K02
local macro_rules | `(tactic| walk_at "w1") => `(tactic| (first
  | with_reducible refine w_seq ?_ | with_reducible refine w_asgN ?_ | with_reducible refine w_c ?_
  | ((with_reducible refine' w_var ?wv ?_); (case wv => exact rfl))
  | with_reducible refine w_op ?_ | with_reducible refine w_un ?_ | with_reducible refine w_next ?_ | with_reducible refine w_brk ?_ | with_reducible refine w_cnt ?_
  | with_reducible refine w_ifS ?_ | with_reducible refine w_if ?_ | with_reducible refine w_test ?_ | with_reducible refine w_tB ?_ | with_reducible refine w_bl ?_ | with_reducible refine w_blI ?_
  | with_reducible refine w_and ?_ | with_reducible refine w_or ?_ | with_reducible refine w_not ?_ | with_reducible refine w_andV ?_ | with_reducible refine w_orV ?_ | with_reducible refine w_notV ?_
  | with_reducible refine w_nil ?_ | with_reducible refine w_cons ?_ | with_reducible refine w_cb ?_ | with_reducible refine w_call ?_ | with_reducible refine w_callS ?_ | with_reducible refine w_chain ?_
  | with_reducible refine w_tupN ?_ | with_reducible refine w_lstN ?_ | with_reducible refine w_sl ?_ | with_reducible refine w_noPart ?_ | with_reducible refine w_part ?_ | with_reducible refine w_partI ?_
  | with_reducible refine w_ret ?_ | with_reducible refine w_retN ?_ | with_reducible refine w_drop ?_ | with_reducible refine w_asg ?_ | with_reducible refine w_gSub ?_
  | ((with_reducible refine' w_aug ?wv ?_); (case wv => exact rfl)) | with_reducible refine w_ipI ?_
  | with_reducible refine w_addI ?_ | with_reducible refine w_subI ?_ | with_reducible refine w_ltI ?_ | with_reducible refine w_leI ?_ | with_reducible refine w_gtI ?_ | with_reducible refine w_geI ?_
  | with_reducible refine w_eqI ?_ | with_reducible refine w_neI ?_ | with_reducible refine w_eqT ?_ | with_reducible refine w_neT ?_ | with_reducible refine w_inS ?_ | with_reducible refine w_ninS ?_
  | with_reducible refine w_absI ?_ | with_reducible refine w_intI ?_ | with_reducible refine w_maxI ?_ | with_reducible refine w_minI ?_
  | with_reducible refine w_for ?_ | with_reducible refine w_iR1 ?_ | with_reducible refine w_iR2 ?_ | with_reducible refine w_iStr ?_ | with_reducible refine w_strI ?_ | with_reducible refine w_iList ?_ | with_reducible refine w_iTup ?_
  | with_reducible refine w_bm ?_ | with_reducible refine w_bm0 ?_ | with_reducible refine w_t ?_ | with_reducible refine w_f ?_ | with_reducible refine w_nt ?_ | with_reducible refine w_nx ?_ | with_reducible refine w_rt ?_ | with_reducible refine w_bk ?_ | with_reducible refine w_ct ?_ | with_reducible refine w_nf ?_ | with_reducible refine w_lc ?_ | with_reducible refine w_yes ?_ | with_reducible refine w_neg ?_ | with_reducible refine w_intB ?_ | with_reducible refine w_fld ?_ | with_reducible refine w_setf ?_ | with_reducible refine w_faug ?_ | with_reducible refine w_meth ?_ | with_reducible refine w_bmS ?_ | with_reducible refine w_start ?_ | with_reducible refine w_revL ?_ | with_reducible refine w_iR3 ?_))
local macro_rules | `(tactic| walk_at "w") => `(tactic| (repeat (first | walk_at "w1" | dsimp (config := { proj := false }) only [List.set_cons_zero, List.set_cons_succ])))
section
variable {w : World} {K : PySem.W.Frag} {mg : Str → Option Value} {base : Heap}
local macro_rules | `(tactic| walk_at "v1") => `(tactic| (first
  | with_reducible refine w_seq ?_ | with_reducible refine w_asgN ?_ | with_reducible refine w_c ?_
  | ((with_reducible refine' w_var ?wv ?_); (case wv => exact rfl))
  | with_reducible refine w_op ?_ | with_reducible refine w_un ?_ | with_reducible refine w_next ?_ | with_reducible refine w_brk ?_ | with_reducible refine w_cnt ?_
  | with_reducible refine w_ifS ?_ | with_reducible refine w_if ?_ | with_reducible refine w_test ?_ | with_reducible refine w_tB ?_ | with_reducible refine w_bl ?_ | with_reducible refine w_blI ?_
  | with_reducible refine w_and ?_ | with_reducible refine w_or ?_ | with_reducible refine w_not ?_ | with_reducible refine w_andV ?_ | with_reducible refine w_orV ?_ | with_reducible refine w_notV ?_
  | with_reducible refine w_nil ?_ | with_reducible refine w_cons ?_ | with_reducible refine w_cb ?_ | with_reducible refine w_call ?_ | with_reducible refine w_callS ?_ | with_reducible refine w_chain ?_
  | with_reducible refine w_sl ?_ | with_reducible refine w_noPart ?_ | with_reducible refine w_part ?_ | with_reducible refine w_partI ?_
  | with_reducible refine w_ret ?_ | with_reducible refine w_retN ?_ | with_reducible refine w_drop ?_ | with_reducible refine w_asg ?_ | with_reducible refine w_gSub ?_
  | ((with_reducible refine' w_aug ?wv ?_); (case wv => exact rfl)) | with_reducible refine w_ipI ?_
  | with_reducible refine w_addI ?_ | with_reducible refine w_subI ?_ | with_reducible refine w_ltI ?_ | with_reducible refine w_leI ?_ | with_reducible refine w_gtI ?_ | with_reducible refine w_geI ?_
  | with_reducible refine w_eqI ?_ | with_reducible refine w_neI ?_ | with_reducible refine w_eqT ?_ | with_reducible refine w_neT ?_ | with_reducible refine w_inS ?_ | with_reducible refine w_ninS ?_
  | with_reducible refine w_absI ?_ | with_reducible refine w_intI ?_ | with_reducible refine w_maxI ?_ | with_reducible refine w_minI ?_
  | with_reducible refine w_for ?_ | with_reducible refine w_iR1 ?_ | with_reducible refine w_iR2 ?_ | with_reducible refine w_iStr ?_ | with_reducible refine w_strI ?_ | with_reducible refine w_iList ?_ | with_reducible refine w_iTup ?_
  | with_reducible refine w_bm ?_ | with_reducible refine w_bm0 ?_ | with_reducible refine w_t ?_ | with_reducible refine w_f ?_ | with_reducible refine w_nt ?_ | with_reducible refine w_nx ?_ | with_reducible refine w_rt ?_ | with_reducible refine w_bk ?_ | with_reducible refine w_ct ?_ | with_reducible refine w_nf ?_ | with_reducible refine w_lc ?_ | with_reducible refine w_yes ?_ | with_reducible refine w_neg ?_ | with_reducible refine w_intB ?_ | with_reducible refine w_fld ?_ | with_reducible refine w_setf ?_ | with_reducible refine w_faug ?_ | with_reducible refine w_meth ?_ | with_reducible refine w_bmS ?_ | with_reducible refine w_start ?_ | with_reducible refine w_revL ?_ | with_reducible refine w_iR3 ?_))
local macro_rules | `(tactic| walk_at "v") => `(tactic| (repeat (first | walk_at "v1" | dsimp (config := { proj := false }) only [List.set_cons_zero, List.set_cons_succ])))
local macro_rules | `(tactic| walk_at "d") => `(tactic| (repeat (first | exact eva_nil | refine eva_cons ?_ ?_ | exact ev_str | exact ev_int | exact ev_neg | refine ev_tup ?_ | (refine ev_var rfl ?_; assumption))))


def KK (k : Kd) : Prop := k.ok ∧ k.sz ≤ 500 ∧ k.ht ≤ 60
def kok : Gt → Prop
  | .app f a => kok f ∧ kok a
  | .lam k b => KK k ∧ kok b
  | .tip (.bnd i) => i ≤ 1000
  | .tip (.var w k) => isName w = true ∧ KK k
  | .tip (.cst w k) => (isName w = true ∨ w ∈ LOGIC) ∧ KK k
theorem kk_weight {k : Kd} (h : KK k) : k.d.weight ≤ 7009 := by have := kd_weight k h.1; have := h.2.1; omega
theorem kok_short : ∀ {g : Gt}, kok g → (upT g).d.leavesShort 13 = true ∧ (upT g).d.showable = true ∧ (upT g).d.weight ≤ 7200 * g.nodes
  | .app f a, h => by
    obtain ⟨f1, f2, f3⟩ := kok_short h.1
    obtain ⟨a1, a2, a3⟩ := kok_short h.2
    refine ⟨ls3 _ _ _ (lvs c_app) f1 a1, sh3 _ _ _ (shS _) f2 a2, ?_⟩
    show (PyData.tuple [.str (S wAPP), (upT f).d, (upT a).d]).weight ≤ 7200 * (f.nodes + a.nodes + 1)
    rw [wt3, wtS]
    show 3 + 1 + _ ≤ _; omega
  | .lam k b, h => by
    obtain ⟨b1, b2, b3⟩ := kok_short h.2
    have hk := kk_weight h.1
    refine ⟨ls3 _ _ _ (lvs c_lam) (kd_short k h.1.1) b1, sh3 _ _ _ (shS _) k.show_ b2, ?_⟩
    show (PyData.tuple [.str (S wLAM), k.d, (upT b).d]).weight ≤ 7200 * (b.nodes + 1)
    rw [wt3, wtS]
    show 3 + 1 + _ ≤ _; omega
  | .tip (.bnd i), h => by
    obtain ⟨i1, i2, i3⟩ := lvI h
    refine ⟨ls2 _ _ (lvs c_bound) i1, sh2 _ _ (shS _) i2, ?_⟩
    show (PyData.tuple [.str (S wBOUND), .int (i : Int)]).weight ≤ 7200 * 1
    rw [wt2, wtS]
    show 5 + 1 + _ ≤ _; omega
  | .tip (.var w k), h => by
    have hk := kk_weight h.2
    have hw := (name_cok h.1).2
    refine ⟨ls3 _ _ _ (lvs c_var) (lvs (name_cok h.1).1) (kd_short k h.2.1), sh3 _ _ _ (shS _) (shS _) k.show_, ?_⟩
    show (PyData.tuple [.str (S wVAR), .str (S w), k.d]).weight ≤ 7200 * 1
    rw [wt3, wtS, wtS]
    show 3 + 1 + _ ≤ _; omega
  | .tip (.cst w k), h => by
    have hk := kk_weight h.2
    have hw := lg_cok h.1
    refine ⟨ls3 _ _ _ (lvs c_const) (lvs hw.1) (kd_short k h.2.1), sh3 _ _ _ (shS _) (shS _) k.show_, ?_⟩
    show (PyData.tuple [.str (S wCONST), .str (S w), k.d]).weight ≤ 7200 * 1
    rw [wt3, wtS, wtS]
    show 5 + 1 + _ ≤ _; omega
theorem kok_lay : ∀ {g : Gt}, kok g → (upT g).d.canLay0 = true ∧ (upT g).d.depth ≤ g.dep + 61
  | .app f a, h => by
    obtain ⟨f1, f2⟩ := kok_lay h.1
    obtain ⟨a1, a2⟩ := kok_lay h.2
    show (PyData.tuple [.str (S wAPP), (upT f).d, (upT a).d]).canLay0 = true ∧ (PyData.tuple [.str (S wAPP), (upT f).d, (upT a).d]).depth ≤ max f.dep a.dep + 1 + 61
    refine ⟨by simp only [PyData.canLay0, PyData.canLayAll0, strOk_S cokApp, f1, a1, Bool.and_self], ?_⟩
    simp only [PyData.depth, PyData.depthAll]; omega
  | .lam k b, h => by
    obtain ⟨b1, b2⟩ := kok_lay h.2
    have := h.1.2.2
    show (PyData.tuple [.str (S wLAM), k.d, (upT b).d]).canLay0 = true ∧ (PyData.tuple [.str (S wLAM), k.d, (upT b).d]).depth ≤ b.dep + 1 + 61
    refine ⟨by simp only [PyData.canLay0, PyData.canLayAll0, strOk_S cokLam, b1, k.lay h.1.1, Bool.and_self], ?_⟩
    simp only [PyData.depth, PyData.depthAll, Kd.depth]; omega
  | .tip (.bnd i), h => by
    show (PyData.tuple [.str (S wBOUND), .int (i : Int)]).canLay0 = true ∧ (PyData.tuple [.str (S wBOUND), .int (i : Int)]).depth ≤ 1 + 61
    exact ⟨by simp only [PyData.canLay0, PyData.canLayAll0, strOk_S cokBound, Bool.and_self], by simp only [PyData.depth, PyData.depthAll]; omega⟩
  | .tip (.var w k), h => by
    have := h.2.2.2
    show (PyData.tuple [.str (S wVAR), .str (S w), k.d]).canLay0 = true ∧ (PyData.tuple [.str (S wVAR), .str (S w), k.d]).depth ≤ 1 + 61
    exact ⟨by simp only [PyData.canLay0, PyData.canLayAll0, strOk_S cokVar, strOk_S (name_cok h.1).1, k.lay h.2.1, Bool.and_self], by simp only [PyData.depth, PyData.depthAll, Kd.depth]; omega⟩
  | .tip (.cst w k), h => by
    have := h.2.2.2
    show (PyData.tuple [.str (S wCONST), .str (S w), k.d]).canLay0 = true ∧ (PyData.tuple [.str (S wCONST), .str (S w), k.d]).depth ≤ 1 + 61
    exact ⟨by simp only [PyData.canLay0, PyData.canLayAll0, strOk_S cokConst, strOk_S (lg_cok h.1).1, k.lay h.2.1, Bool.and_self], by simp only [PyData.depth, PyData.depthAll, Kd.depth]; omega⟩
theorem shw_kok {g : Gt} (h : kok g) (d : g.dep ≤ 110) (n : g.nodes ≤ 130) : Shw (upT g).d := by
  obtain ⟨h1, h2, h3⟩ := kok_short h
  have := PyData.shown_le 13 (by decide) (upT g).d h1
  exact ⟨⟨(kok_lay h).1, by have := (kok_lay h).2; omega⟩, eqv_self g, h2, by omega⟩
theorem put_ht {tb : Tb Kd} (h : TbOk tb) : ∀ k : Kd, (putK2 tb k).ht ≤ k.ht + 5
  | .to a b => by
    have := put_ht h a; have := put_ht h b
    show max (putK2 tb a).ht (putK2 tb b).ht + 1 ≤ max a.ht b.ht + 1 + 5
    omega
  | .fr w => by
    show ((tb w).getD (.fr w)).ht ≤ 1 + 5
    cases e : tb w with
    | none => show 1 ≤ 6; omega
    | some j => have := (h w j e).2; have := j.ht_sz; show j.ht ≤ 6; omega
  | .nm w => by show 1 ≤ 6; omega
theorem kk_put {tb : Tb Kd} (h : TbOk tb) {k : Kd} (g : GK k) : KK (putK2 tb k) := by
  obtain ⟨a, b⟩ := put_ok h k g.1
  have := put_ht h k
  have := gk_ht g
  have := g.2
  exact ⟨a, by omega, by omega⟩
theorem kok_put {tb : Tb Kd} (h : TbOk tb) : ∀ g : Gt, g.gok → smB g → kok (pkT tb g)
  | .app f a, hg, z => ⟨kok_put h f hg.1 z.1, kok_put h a hg.2 z.2⟩
  | .lam k b, hg, z => ⟨kk_put h hg.1, kok_put h b hg.2 z⟩
  | .tip (.bnd i), hg, z => z
  | .tip (.var w k), hg, z => ⟨hg.1, kk_put h hg.2⟩
  | .tip (.cst w k), hg, z => ⟨hg.1, kk_put h hg.2⟩
def pkR (tb : Tb Kd) : G2 → G2 := Rw.map (putK2 tb) (mapLf tb)
def sp_law_ask_kinds : Sp := sp4 fun x y z u H Q _ => ∃ (a p q cp : Addr) (ws : List (List Nat)) (c : List G2) (t : Gt), x = .ref a ∧ y = .ref p ∧ z = .ref q ∧ u = .ref cp ∧ Pot a H ∧ NmW ws H p ∧ PoL H q ∧ DL H cp (gd c) ∧ fok c ∧ fo c = [t] ∧ (∀ r ∈ c, r.gok) ∧ c.length ≤ 101 ∧ t.dep ≤ 101 ∧ inScope t 0 = true ∧ ∀ H', Pot a H' → Kb a H H' → Q (.bl true) H'
theorem ok_law_ask_kinds (T : Txt w K mg) {fd : FuncData} (F : Fn_law_ask_kinds K fd) (hm : mg "_law_ask_kinds" = some (.ref (He.ga K "_law_ask_kinds"))) (c_law_take : CalX P w K mg base CX0 1 "_law_take" sp_law_take)(c_law_kind_put : CalX P w K mg base CX0 1 "_law_kind_put" sp_law_kind_put)(c_put_kinds : CalX P w K mg base CX0 153 "put_kinds" (sp_pks 101))(c_law_built : CalX P w K mg base CX0 1 "_law_built" sp_law_built)(c_law_same : CalG P w K mg base CX0 1 "_law_same" sp_law_same) : CalG P w K mg base CX0 154 "_law_ask_kinds" sp_law_ask_kinds := by
  refine calg0 (k := 153) F hm sc_law_ask_kinds (b_law_ask_kinds F) (fun _ _ _ _ h => sp4_len h) (fun cdv A outer s H vs Q E hr h => ?_)
  obtain ⟨x0, x1, x2, x3, rfl, h⟩ := h
  refine ⟨_, (pss_cons (ps_set (i := 4) sc_law_ask_kinds.nd rfl (Or.inl rfl) pe_dnewK)
    (pss_cons (ps_for PassesOwn.never rfl (pi_list (pv 1)) (pg_name (i := 5) sc_law_ask_kinds.nd rfl (Or.inl rfl))
    (pss_one (ps_if (pt_cmpR op_eq (pe_cx c_law_take hr.toRoom (by decide) rfl pass0 (pa_cons (pv 0) (pa_cons pe_int pa_nil))) pe_int (nomark _))
    (pss_one (ps_asg (pe_ix ix_list (pv 2) (pe_cx c_law_take hr.toRoom (by decide) rfl pass0 (pa_cons (pv 0) (pa_cons pe_int pa_nil))) (fun _ _ => rfl)) (pg_sub (pv 4) (pv 5) (set_dict (hu_of hr.toRoom)))))
    pss_nil)))
    (pss_cons (ps_set (i := 6) sc_law_ask_kinds.nd rfl (Or.inl rfl) (pe_lst pa_nil))
    (pss_cons (ps_for PassesOwn.never rfl (pi_list (pv 3)) (pg_name (i := 7) sc_law_ask_kinds.nd rfl (Or.inl rfl))
    (pss_one (ps_if (PW.pt (pw_or (pt_cmpR op_eq (pe_ix ix_tup (pv 7) pe_int (fun _ _ => rfl)) pe_str (nomark _)) (pw_or1 (pt_cmpR op_eq (pe_ix ix_tup (pv 7) pe_int (fun _ _ => rfl)) pe_str (nomark _)))))
    (pss_one (ps_expr (pe_bm PySem.F.plainAttrs_list PySem.F.slot_list_append PySem.F.type_list_append mt_append (pv 6) (pa_cons (pe_tup (pa_cons (pe_ix ix_tup (pv 7) pe_int (fun _ _ => rfl)) (pa_cons (pe_ix ix_tup (pv 7) pe_int (fun _ _ => rfl)) (pa_cons (pe_cx c_law_kind_put hr.toRoom (by decide) rfl pass0 (pa_cons (pe_ix ix_tup (pv 7) pe_int (fun _ _ => rfl)) (pa_cons (pv 4) pa_nil))) pa_nil)))) pa_nil))))
    (pss_one (ps_if (pt_cmpR op_eq (pe_ix ix_tup (pv 7) pe_int (fun _ _ => rfl)) pe_str (nomark _))
    (pss_one (ps_expr (pe_bm PySem.F.plainAttrs_list PySem.F.slot_list_append PySem.F.type_list_append mt_append (pv 6) (pa_cons (pe_tup (pa_cons pe_str (pa_cons (pe_cx c_law_kind_put hr.toRoom (by decide) rfl pass0 (pa_cons (pe_ix ix_tup (pv 7) pe_int (fun _ _ => rfl)) (pa_cons (pv 4) pa_nil))) pa_nil))) pa_nil))))
    (pss_one (ps_expr (pe_bm PySem.F.plainAttrs_list PySem.F.slot_list_append PySem.F.type_list_append mt_append (pv 6) (pa_cons (pv 7) pa_nil)))))))))
    (pss_cons (ps_set (i := 8) sc_law_ask_kinds.nd rfl (Or.inl rfl) (pe_callTy call_dictC (by rfl) T.f_dict (by decide +kernel) (pa_cons (pv 4) pa_nil)))
    (pss_cons (ps_set (i := 9) sc_law_ask_kinds.nd rfl (Or.inl rfl) (pe_cx c_put_kinds hr.toRoom (by decide) rfl pass0 (pa_cons (pe_cx c_law_built hr.toRoom (by decide) rfl pass0 (pa_cons (pv 3) pa_nil)) (pa_cons (pv 8) pa_nil))))
    (pss_one (ps_ret (pe_and (pe_cmpR (op_eqDC (un_of hr.toRoom)) (pv 8) (pv 4) (nomark _)) (pe_one (pe_cg c_law_same hr (by decide) rfl pass0 (pa_cons (pv 9) (pa_cons (pe_cx c_law_built hr.toRoom (by decide) rfl pass0 (pa_cons (pv 6) pa_nil)) pa_nil))))))))))))), ?_⟩
  rw [show start ["pot", "words", "pool", "code", "table", "word", "made", "row", "given", "told"] [x0, x1, x2, x3] = [some x0, some x1, some x2, some x3, none, none, none, none, none, none] from rfl]
  have ec0 : Str.ofString "var" = S [118,97,114] := S_ofs (by decide +kernel)
  have ec1 : Str.ofString "const" = S [99,111,110,115,116] := S_ofs (by decide +kernel)
  have ec2 : Str.ofString "lam" = S [108,97,109] := S_ofs (by decide +kernel)
  rw [ec0, ec1, ec2]
  obtain ⟨a, p, q, cp, ws, c, t, rfl, rfl, rfl, rfl, hP, hW, hL, hd, hok, hfo, hg, hz, hdp, hsc, hQ⟩ := h
  have hpa : p ≠ a := hW.ne hP
  have hqa : q ≠ a := hL.ne hP (by omega)
  have hca : cp ≠ a := DL.ne_pot hd hP gd_ne_int
  try dsimp only [cxOf]
  walk_at "v"
  refine w_dnew (fun ta H1 hta0 s1 e1 => ?_)
  walk_at "v"
  have hta : ta ≠ a := Pot.ne hP hta0
  have P1 := hP.same s1
  have hW1 := hW.same s1
  obtain ⟨xs, exs, txs⟩ := hW.1
  have lxs : xs.length = 4 := by rw [txs.len, List.length_map]; exact hW.2.1
  have nlp : p ≠ ta := fun z => by rw [z, hta0] at exs; cases exs
  refine w_lstI (SqL.of (s1 _ _ exs)) ?_
  refine for_list (xs := xs) (fun i σ H' => ∃ (kv : List (Key × V)) (tb : Tb Kd) (v5 : Option V), σ = [some (.ref a), some (.ref p), some (.ref q), some (.ref cp), some (.ref ta), v5, none, none, none, none] ∧ Pot a H' ∧ Kb a H H' ∧ H' ta = some (.dK kv) ∧ DOk H' kv i (fun w => (tb w).map Kd.d) ∧ TbOk tb)
    ⟨[], fun _ => none, _, rfl, P1, Kb.same s1, e1, DOk.nil.ext fun w => rfl, fun w k e => by cases e⟩ (fun i σ H' _ h => by obtain ⟨_, _, _, _, _, h, _⟩ := h; exact SqL.of (h _ _ hpa exs)) ?_ ?_
  · rintro i x σ G hi ⟨kv, tb, v5, rfl, Pg, kg, et, dt, htb⟩
    have hi4 : i < 4 := by rw [← lxs]; exact (List.getElem?_eq_some_iff.mp hi).1
    obtain ⟨d, ed, td⟩ := (txs.tm (Kb.pot_tm hP kg)).get' hi
    obtain ⟨w, ew⟩ : ∃ w, d = .str (S w) := by
      obtain ⟨w, _, h2⟩ := List.mem_map.mp (List.mem_of_getElem? ed)
      exact ⟨w, h2.symm⟩
    subst ew
    rw [td.txt]
    dsimp only [gName]
    walk_at "v"
    refine ⟨_, _, rfl, a, 2, rfl, rfl, by omega, by omega, Pg, fun v3 H3 hv3 P3 k3 => ?_⟩
    walk_at "v"
    have et3 := k3 _ _ hta et
    have dt3 := dt.tm (Kb.pot_tm Pg k3)
    have kg3 := kg.tr k3
    refine w_dec (fun hb => ?_) (fun hb => ?_)
    · walk_at "v"
      refine ⟨_, _, rfl, a, 4, rfl, rfl, by omega, by omega, P3, fun v4 H4 hv4 P4 k4 => ?_⟩
      walk_at "v"
      refine (hL.kb hP (kg3.tr k4) hqa).ix hv4 (fun xo ko oko szo txo => ?_)
      walk_at "v"
      have et4 := k4 _ _ hta et3
      refine k_put (k := Sum.inr (S w)) et4 (by have := dt.1; omega) (fun H5 e5 x5 => ?_)
      have tm5 := Tm.exK et4 x5
      refine ⟨_, setT tb w ko, _, rfl, P4.ex x5 hta.symm, (kg3.tr k4).ex hta0 x5, e5, ?_, fun w' k' e' => ?_⟩
      · rw [setT_map]
        exact DOk.put (dt3.tm ((Kb.pot_tm P3 k4).tr tm5)) (txo.tm tm5)
      · unfold setT at e'
        split at e'
        · cases e'; exact ⟨oko, szo⟩
        · exact htb w' k' e'
    · walk_at "v"
      exact ⟨kv, tb, _, rfl, P3, kg3, et3, dt3.mono (by omega), htb⟩
  rintro σ H2 ⟨kv, tb, v5, rfl, P2, k2, et2, dt2, htb⟩
  rw [lxs] at dt2
  walk_at "v"
  refine ev_lst (ds := gd []) (by walk_at "d") (fun mq H3 hm s3 dm => ?_)
  walk_at "v"
  have hm0 : H mq = none := fresh_kb P2 k2 hm
  have hma : mq ≠ a := Pot.ne P2 hm
  obtain ⟨ys, ec, tc⟩ := hd
  have ec2 : H2 cp = some (.lst ys) := k2 _ _ hca ec
  have tc2 : TDs H2 ys (gd c) := tc.tm (Kb.pot_tm hP k2)
  have lys : ys.length = c.length := by rw [tc.len, gd_len]
  refine w_lstI (SqL.of (s3 _ _ ec2)) ?_
  refine for_list (xs := ys) (fun i σ H' => ∃ (v7 : Option V), σ = [some (.ref a), some (.ref p), some (.ref q), some (.ref cp), some (.ref ta), v5, some (.ref mq), v7, none, none] ∧ Same H2 H' ∧ DL H' mq (gd ((c.take i).map (pkR tb))))
    ⟨_, rfl, s3, dm⟩ (fun i σ H' _ h => by obtain ⟨_, _, h, _⟩ := h; exact SqL.of (h _ _ ec2)) ?_ ?_
  · rintro i x σ G hx ⟨v7, rfl, sg, dg⟩
    have hi : i < c.length := by rw [← lys]; exact (List.getElem?_eq_some_iff.mp hx).1
    obtain ⟨d, ed, td⟩ := (tc2.tm (Tm.same sg)).get' hx
    have ei := List.getElem?_eq_getElem hi
    have gi := hg _ (List.getElem_mem hi)
    generalize c[i] = r at ei gi
    have edr : d = (upR r).d := by
      unfold gd cd at ed
      rw [List.getElem?_map, List.getElem?_map, ei] at ed
      exact (Option.some.inj ed).symm
    subst edr
    have hnx : (c.take (i + 1)).map (pkR tb) = (c.take i).map (pkR tb) ++ [pkR tb r] := by
      rw [List.take_add_one, ei, List.map_append]; rfl
    have hgl : (gd ((c.take i).map (pkR tb))).length ≤ 100000 := by rw [gd_len, List.length_map, List.length_take]; omega
    dsimp only [gName]
    walk_at "v"
    obtain ⟨rest, er⟩ := gw_d r
    have tdx : TD G x (.tuple (.str (S (gw r)) :: rest)) := by rw [← er]; exact td
    refine t_ixS (n := 0) tdx rfl ?_
    walk_at "v"
    have gta := sg _ _ et2
    have gdt : DOk G kv 4 (fun w => (tb w).map Kd.d) := dt2.tm (Tm.same sg)
    have fin : ∀ {G' G2 : Hp} {u : V}, Same G G' → TD G' u (upR (pkR tb r)).d → DL G' mq (gd ((c.take i).map (pkR tb))) → (∀ H'', DL H'' mq (gd ((c.take i).map (pkR tb)) ++ [(upR (pkR tb r)).d]) → Ex mq G' H'' → ∃ (v7 : Option V), [some (.ref a), some (.ref p), some (.ref q), some (.ref cp), some (.ref ta), v5, some (.ref mq), some x, none, none] = [some (.ref a), some (.ref p), some (.ref q), some (.ref cp), some (.ref ta), v5, some (.ref mq), v7, none, none] ∧ Same H2 H'' ∧ DL H'' mq (gd ((c.take (i + 1)).map (pkR tb)))) := fun {G' G2 u} s _ _ H'' d x' =>
      ⟨some x, rfl, (sg.tr s).ex hm x', by rw [hnx, gd_app]; exact d⟩
    cases r with
    | app =>
      rw [show decide (gw .app = [118, 97, 114]) = false from (show decide (wAPP = [118, 97, 114]) = false by decide)]
      walk_at "v"
      refine t_ixS (n := 0) tdx rfl ?_
      walk_at "v"
      rw [show decide (gw .app = [99, 111, 110, 115, 116]) = false from (show decide (wAPP = [99, 111, 110, 115, 116]) = false by decide)]
      walk_at "v"
      refine t_ixS (n := 0) tdx rfl ?_
      walk_at "v"
      rw [show decide (gw .app = [108, 97, 109]) = false from (show decide (wAPP = [108, 97, 109]) = false by decide)]
      walk_at "v"
      refine l_ty dg ?_
      walk_at "v"
      exact l_app dg td (fun H'' d' x' => fin (G2 := G) (Same.refl' G) td dg H'' d' x') hgl
    | lam j =>
      have td' : TD G x (.tuple [.str (S wLAM), j.d]) := td
      have gj : GK j := gi
      rw [show decide (gw (.lam j) = [118, 97, 114]) = false from (show decide (wLAM = [118, 97, 114]) = false by decide)]
      walk_at "v"
      refine t_ixS (n := 0) tdx rfl ?_
      walk_at "v"
      rw [show decide (gw (.lam j) = [99, 111, 110, 115, 116]) = false from (show decide (wLAM = [99, 111, 110, 115, 116]) = false by decide)]
      walk_at "v"
      refine t_ixS (n := 0) tdx rfl ?_
      walk_at "v"
      rw [show decide (gw (.lam j) = [108, 97, 109]) = true from (show decide (wLAM = [108, 97, 109]) = true by decide)]
      walk_at "v"
      refine l_ty dg ?_
      walk_at "v"
      refine w_tupN ?_
      walk_at "v"
      refine t_ix (n := 1) td' rfl (fun y1 ty1 => ?_)
      walk_at "v"
      refine ⟨_, _, rfl, j, ta, kv, 4, tb, ty1, rfl, gta, gdt, htb, gj.1, gj.2, fun u G1 s1' t1 => ?_⟩
      walk_at "v"
      refine t_new (ds := [.str (S wLAM), (putK2 tb j).d]) (.cons (.str _) (.cons t1 .nil)) (fun p4 G2 hp4 s4 t4 => ?_)
      walk_at "v"
      have s14 := s1'.tr s4
      exact l_app (dg.same s14) (d := (upR (pkR tb (.lam j))).d) t4 (fun H'' d' x' => fin (G2 := G) s14 t4 (dg.same s14) H'' d' x') hgl
    | tip l =>
      cases l with
      | bnd j =>
        rw [show decide (gw (.tip (.bnd j)) = [118, 97, 114]) = false from (show decide (wBOUND = [118, 97, 114]) = false by decide)]
        walk_at "v"
        refine t_ixS (n := 0) tdx rfl ?_
        walk_at "v"
        rw [show decide (gw (.tip (.bnd j)) = [99, 111, 110, 115, 116]) = false from (show decide (wBOUND = [99, 111, 110, 115, 116]) = false by decide)]
        walk_at "v"
        refine t_ixS (n := 0) tdx rfl ?_
        walk_at "v"
        rw [show decide (gw (.tip (.bnd j)) = [108, 97, 109]) = false from (show decide (wBOUND = [108, 97, 109]) = false by decide)]
        walk_at "v"
        refine l_ty dg ?_
        walk_at "v"
        exact l_app dg td (fun H'' d' x' => fin (G2 := G) (Same.refl' G) td dg H'' d' x') hgl
      | var w' k' =>
        rw [show decide (gw (.tip (.var w' k')) = [118, 97, 114]) = true from (show decide (wVAR = [118, 97, 114]) = true by decide)]
        walk_at "v"
        refine l_ty dg ?_
        walk_at "v"
        refine w_tupN ?_
        walk_at "v"
        have td' : TD G x (.tuple [.str (S wVAR), .str (S w'), k'.d]) := td
        refine t_ixS (n := 0) td' rfl ?_
        walk_at "v"
        refine t_ixS (n := 1) td' rfl ?_
        walk_at "v"
        refine t_ix (n := 2) td' rfl (fun y1 ty1 => ?_)
        walk_at "v"
        refine ⟨_, _, rfl, k', ta, kv, 4, tb, ty1, rfl, gta, gdt, htb, gi.2.1, gi.2.2, fun u G1 s1' t1 => ?_⟩
        walk_at "v"
        refine t_new (ds := [.str (S wVAR), .str (S w'), (putK2 tb k').d]) (.cons (.str _) (.cons (.str _) (.cons t1 .nil))) (fun p4 G2 hp4 s4 t4 => ?_)
        walk_at "v"
        have s14 := s1'.tr s4
        exact l_app (dg.same s14) (d := (upR (pkR tb (.tip (.var w' k')))).d) t4 (fun H'' d' x' => fin (G2 := G) s14 t4 (dg.same s14) H'' d' x') hgl
      | cst w' k' =>
        rw [show decide (gw (.tip (.cst w' k')) = [118, 97, 114]) = false from (show decide (wCONST = [118, 97, 114]) = false by decide)]
        walk_at "v"
        refine t_ixS (n := 0) tdx rfl ?_
        walk_at "v"
        rw [show decide (gw (.tip (.cst w' k')) = [99, 111, 110, 115, 116]) = true from (show decide (wCONST = [99, 111, 110, 115, 116]) = true by decide)]
        walk_at "v"
        refine l_ty dg ?_
        walk_at "v"
        refine w_tupN ?_
        walk_at "v"
        have td' : TD G x (.tuple [.str (S wCONST), .str (S w'), k'.d]) := td
        refine t_ixS (n := 0) td' rfl ?_
        walk_at "v"
        refine t_ixS (n := 1) td' rfl ?_
        walk_at "v"
        refine t_ix (n := 2) td' rfl (fun y1 ty1 => ?_)
        walk_at "v"
        refine ⟨_, _, rfl, k', ta, kv, 4, tb, ty1, rfl, gta, gdt, htb, gi.2.1, gi.2.2, fun u G1 s1' t1 => ?_⟩
        walk_at "v"
        refine t_new (ds := [.str (S wCONST), .str (S w'), (putK2 tb k').d]) (.cons (.str _) (.cons (.str _) (.cons t1 .nil))) (fun p4 G2 hp4 s4 t4 => ?_)
        walk_at "v"
        have s14 := s1'.tr s4
        exact l_app (dg.same s14) (d := (upR (pkR tb (.tip (.cst w' k')))).d) t4 (fun H'' d' x' => fin (G2 := G) s14 t4 (dg.same s14) H'' d' x') hgl
  rintro σ H4 ⟨v7, rfl, s4, d4⟩
  rw [lys, List.take_length] at d4
  have gt := gok_of hok hfo hg
  have hnt := fo_nodes1 hok hfo
  have smt : smB t := smB_scope t 0 hsc (by omega)
  have dp1 := t.dep_pos
  have P4 := P2.same s4
  have k4 := k2.then s4
  have et4 := s4 _ _ et2
  have dt4 : DOk H4 kv 4 (fun w => (tb w).map Kd.d) := dt2.tm (Tm.same s4)
  walk_at "v"
  refine w_dictC et4 (fun ga H5 hga s5 e5 => ?_)
  walk_at "v"
  refine ⟨_, rfl, cp, c, t, rfl, ⟨ys, s5 _ _ (s4 _ _ ec2), tc2.tm (Tm.same (s4.tr s5))⟩, hok, hfo, by omega, fun xt H6 s6 t6 => ?_⟩
  walk_at "v"
  have dt6 : DOk H6 kv 4 (fun w => (tb w).map Kd.d) := dt4.tm (Tm.same (s5.tr s6))
  have e6 := s6 _ _ e5
  refine ⟨_, _, rfl, t, ga, tb, t6, rfl, DOk.kd e6 dt6, gt, by omega, fun u H7 s7 t7 => ?_⟩
  walk_at "v"
  have s47 := (s5.tr s6).tr s7
  refine ⟨⟨ga, ta, kv, rfl, rfl, s7 _ _ e6, s47 _ _ et4, dt4.2.1⟩, ?_⟩
  walk_at "v"
  have fom : fo (c.map (pkR tb)) = [pkT tb t] := by unfold pkR; rw [fo_map, hfo]; rfl
  have okm : fok (c.map (pkR tb)) := (Vc.map (putK2 tb) (mapLf tb) (⟨hok, rfl⟩ : Vc c _)).1
  refine ⟨_, rfl, mq, c.map (pkR tb), pkT tb t, rfl, d4.same s47, okm, fom, by rw [List.length_map]; omega, fun v H8 s8 t8 => ?_⟩
  walk_at "v"
  have kk := kok_put htb t gt smt
  have sw := shw_kok kk (by unfold pkT; rw [dep_map]; omega) (by unfold pkT; rw [nodes_map]; omega)
  exact same_of (t7.tm (Tm.same s8)) t8 sw (hQ H8 ((P4.same s47).same s8) (k4.then (s47.tr s8)))
end
end K01

namespace K01
open PySem PySem.Spec PyProof.Rows L2 SX K02
local macro_rules | `(tactic| walk_at "w1") => `(tactic| (first
  | with_reducible refine w_seq ?_ | with_reducible refine w_asgN ?_ | with_reducible refine w_c ?_
  | ((with_reducible refine' w_var ?wv ?_); (case wv => exact rfl))
  | with_reducible refine w_op ?_ | with_reducible refine w_un ?_ | with_reducible refine w_next ?_ | with_reducible refine w_brk ?_ | with_reducible refine w_cnt ?_
  | with_reducible refine w_ifS ?_ | with_reducible refine w_if ?_ | with_reducible refine w_test ?_ | with_reducible refine w_tB ?_ | with_reducible refine w_bl ?_ | with_reducible refine w_blI ?_
  | with_reducible refine w_and ?_ | with_reducible refine w_or ?_ | with_reducible refine w_not ?_ | with_reducible refine w_andV ?_ | with_reducible refine w_orV ?_ | with_reducible refine w_notV ?_
  | with_reducible refine w_nil ?_ | with_reducible refine w_cons ?_ | with_reducible refine w_cb ?_ | with_reducible refine w_call ?_ | with_reducible refine w_callS ?_ | with_reducible refine w_chain ?_
  | with_reducible refine w_tupN ?_ | with_reducible refine w_lstN ?_ | with_reducible refine w_sl ?_ | with_reducible refine w_noPart ?_ | with_reducible refine w_part ?_ | with_reducible refine w_partI ?_
  | with_reducible refine w_ret ?_ | with_reducible refine w_retN ?_ | with_reducible refine w_drop ?_ | with_reducible refine w_asg ?_ | with_reducible refine w_gSub ?_
  | ((with_reducible refine' w_aug ?wv ?_); (case wv => exact rfl)) | with_reducible refine w_ipI ?_
  | with_reducible refine w_addI ?_ | with_reducible refine w_subI ?_ | with_reducible refine w_ltI ?_ | with_reducible refine w_leI ?_ | with_reducible refine w_gtI ?_ | with_reducible refine w_geI ?_
  | with_reducible refine w_eqI ?_ | with_reducible refine w_neI ?_ | with_reducible refine w_eqT ?_ | with_reducible refine w_neT ?_ | with_reducible refine w_inS ?_ | with_reducible refine w_ninS ?_
  | with_reducible refine w_absI ?_ | with_reducible refine w_intI ?_ | with_reducible refine w_maxI ?_ | with_reducible refine w_minI ?_
  | with_reducible refine w_for ?_ | with_reducible refine w_iR1 ?_ | with_reducible refine w_iR2 ?_ | with_reducible refine w_iStr ?_ | with_reducible refine w_strI ?_ | with_reducible refine w_iList ?_ | with_reducible refine w_iTup ?_
  | with_reducible refine w_bm ?_ | with_reducible refine w_bm0 ?_ | with_reducible refine w_t ?_ | with_reducible refine w_f ?_ | with_reducible refine w_nt ?_ | with_reducible refine w_nx ?_ | with_reducible refine w_rt ?_ | with_reducible refine w_bk ?_ | with_reducible refine w_ct ?_ | with_reducible refine w_nf ?_ | with_reducible refine w_lc ?_ | with_reducible refine w_yes ?_ | with_reducible refine w_neg ?_ | with_reducible refine w_intB ?_ | with_reducible refine w_fld ?_ | with_reducible refine w_setf ?_ | with_reducible refine w_faug ?_ | with_reducible refine w_meth ?_ | with_reducible refine w_bmS ?_ | with_reducible refine w_start ?_ | with_reducible refine w_revL ?_ | with_reducible refine w_iR3 ?_))
local macro_rules | `(tactic| walk_at "w") => `(tactic| (repeat (first | walk_at "w1" | dsimp (config := { proj := false }) only [List.set_cons_zero, List.set_cons_succ])))
section
variable {w : World} {K : PySem.W.Frag} {mg : Str → Option Value} {base : Heap}
local macro_rules | `(tactic| walk_at "v1") => `(tactic| (first
  | with_reducible refine w_seq ?_ | with_reducible refine w_asgN ?_ | with_reducible refine w_c ?_
  | ((with_reducible refine' w_var ?wv ?_); (case wv => exact rfl))
  | with_reducible refine w_op ?_ | with_reducible refine w_un ?_ | with_reducible refine w_next ?_ | with_reducible refine w_brk ?_ | with_reducible refine w_cnt ?_
  | with_reducible refine w_ifS ?_ | with_reducible refine w_if ?_ | with_reducible refine w_test ?_ | with_reducible refine w_tB ?_ | with_reducible refine w_bl ?_ | with_reducible refine w_blI ?_
  | with_reducible refine w_and ?_ | with_reducible refine w_or ?_ | with_reducible refine w_not ?_ | with_reducible refine w_andV ?_ | with_reducible refine w_orV ?_ | with_reducible refine w_notV ?_
  | with_reducible refine w_nil ?_ | with_reducible refine w_cons ?_ | with_reducible refine w_cb ?_ | with_reducible refine w_call ?_ | with_reducible refine w_callS ?_ | with_reducible refine w_chain ?_
  | with_reducible refine w_sl ?_ | with_reducible refine w_noPart ?_ | with_reducible refine w_part ?_ | with_reducible refine w_partI ?_
  | with_reducible refine w_ret ?_ | with_reducible refine w_retN ?_ | with_reducible refine w_drop ?_ | with_reducible refine w_asg ?_ | with_reducible refine w_gSub ?_
  | ((with_reducible refine' w_aug ?wv ?_); (case wv => exact rfl)) | with_reducible refine w_ipI ?_
  | with_reducible refine w_addI ?_ | with_reducible refine w_subI ?_ | with_reducible refine w_ltI ?_ | with_reducible refine w_leI ?_ | with_reducible refine w_gtI ?_ | with_reducible refine w_geI ?_
  | with_reducible refine w_eqI ?_ | with_reducible refine w_neI ?_ | with_reducible refine w_eqT ?_ | with_reducible refine w_neT ?_ | with_reducible refine w_inS ?_ | with_reducible refine w_ninS ?_
  | with_reducible refine w_absI ?_ | with_reducible refine w_intI ?_ | with_reducible refine w_maxI ?_ | with_reducible refine w_minI ?_
  | with_reducible refine w_for ?_ | with_reducible refine w_iR1 ?_ | with_reducible refine w_iR2 ?_ | with_reducible refine w_iStr ?_ | with_reducible refine w_strI ?_ | with_reducible refine w_iList ?_ | with_reducible refine w_iTup ?_
  | with_reducible refine w_bm ?_ | with_reducible refine w_bm0 ?_ | with_reducible refine w_t ?_ | with_reducible refine w_f ?_ | with_reducible refine w_nt ?_ | with_reducible refine w_nx ?_ | with_reducible refine w_rt ?_ | with_reducible refine w_bk ?_ | with_reducible refine w_ct ?_ | with_reducible refine w_nf ?_ | with_reducible refine w_lc ?_ | with_reducible refine w_yes ?_ | with_reducible refine w_neg ?_ | with_reducible refine w_intB ?_ | with_reducible refine w_fld ?_ | with_reducible refine w_setf ?_ | with_reducible refine w_faug ?_ | with_reducible refine w_meth ?_ | with_reducible refine w_bmS ?_ | with_reducible refine w_start ?_ | with_reducible refine w_revL ?_ | with_reducible refine w_iR3 ?_))
local macro_rules | `(tactic| walk_at "v") => `(tactic| (repeat (first | walk_at "v1" | dsimp (config := { proj := false }) only [List.set_cons_zero, List.set_cons_succ])))
local macro_rules | `(tactic| walk_at "d") => `(tactic| (repeat (first | exact eva_nil | refine eva_cons ?_ ?_ | exact ev_str | exact ev_int | exact ev_neg | refine ev_tup ?_ | (refine ev_var rfl ?_; assumption))))


theorem t_truth {K : PySem.W.Frag} {H : Hp} {v : V} {ds : List PyData} {F : Bool → Prop} (h : TD H v (.tuple ds)) (k : F (decide (ds ≠ []))) : ∃ k, TruV K v H k ∧ F k := by
  obtain ⟨a, xs, rfl, e, t⟩ := h.tuple
  refine ⟨_, .inr (.inl ⟨xs, SqT.of e, ?_⟩), k⟩
  have := t.len
  cases xs <;> cases ds <;> first | rfl | (cases this; done) | simp
theorem dep_nodes {κ τ : Type} : ∀ t : Tr κ τ, t.dep ≤ t.nodes
  | .app f a => by have := dep_nodes f; have := dep_nodes a; have := f.nodes_pos; have := a.nodes_pos; show max f.dep a.dep + 1 ≤ f.nodes + a.nodes + 1; omega
  | .lam k b => by have := dep_nodes b; show b.dep + 1 ≤ b.nodes + 1; omega
  | .tip x => Nat.le_refl _
theorem FD.kb {a : Addr} {H H' : Hp} {kvs : List (Key × V)} {n : Nat} {fb : Tb (Kd × List G2)} (h : FD H kvs n fb) (P : Pot a H) (k : Kb a H H') : FD H' kvs n fb :=
  ⟨h.1, h.2.1, fun w => (h.2.2 w).imp id fun ⟨b, x, p, j, c, h1, h2, h3, h4, h5⟩ => ⟨b, x, p, j, c, h1, h2, Kb.pot_tm P k _ _ h3, h4.tm (Kb.pot_tm P k), DLkb h5 P k (DL.ne_pot h5 P gd_ne_int)⟩⟩
theorem FD.put {H : Hp} {kvs : List (Key × V)} {n : Nat} {fb : Tb (Kd × List G2)} {w : List Nat} {b p : Addr} {x : V} {k : Kd} {c : List G2} (h : FD H kvs n fb) (h3 : H b = some (.tup [x, .ref p])) (h4 : TD H x k.d) (h5 : DL H p (gd c)) :
    FD H (putK kvs (Sum.inr (S w)) (.ref b)) (n + 1) (setT fb w (k, c)) := by
  refine ⟨Nat.le_trans (length_putK _ _ _) (Nat.succ_le_succ h.1), fun q hq => ?_, fun w' => ?_⟩
  · have hq' : q.1 ∈ (putK kvs (Sum.inr (S w)) (V.ref b)).map (·.1) := List.mem_map.mpr ⟨q, hq, rfl⟩
    obtain ⟨v, hv⟩ := valV_mem.mpr hq'
    rw [valV_put] at hv
    by_cases z : q.1 = Sum.inr (S w)
    · exact ⟨w, z⟩
    · rw [if_neg z] at hv
      obtain ⟨q2, hq2, e2⟩ := List.mem_map.mp (valV_mem.mp ⟨v, hv⟩)
      obtain ⟨w2, e3⟩ := h.2.1 q2 hq2
      exact ⟨w2, e2.symm.trans e3⟩
  · rw [valV_put]
    unfold setT
    by_cases z : w' = w
    · subst z
      rw [if_pos rfl, if_pos rfl]; exact .inr ⟨b, x, p, k, c, rfl, rfl, h3, h4, h5⟩
    · rw [if_neg (fun y => z (inrS.mp y)), if_neg z]; exact h.2.2 w'
def sp_law_fills : Sp := sp4 fun x y z u H Q _ => ∃ (a p q cp : Addr) (ws : List (List Nat)) (c : List G2), x = .ref a ∧ y = .ref p ∧ z = .ref q ∧ u = .ref cp ∧ Pot a H ∧ NmW ws H p ∧ PoL H q ∧ DL H cp (gd c) ∧ (∀ r ∈ c, r.gok ∧ fine ws r) ∧ c.length ≤ 101 ∧
  ∀ (fa : Addr) (H' : Hp) (kvs : List (Key × V)) (fb : Tb (Kd × List G2)), H fa = none → H' fa = some (.dK kvs) → FD H' kvs 4 fb → FbOk 11 fb → Pot a H' → Kb a H H' → Q (.ref fa) H'
theorem ok_law_fills (T : Txt w K mg) {fd : FuncData} (F : Fn_law_fills K fd) (hm : mg "_law_fills" = some (.ref (He.ga K "_law_fills"))) (c_law_take : CalX P w K mg base CX0 1 "_law_take" sp_law_take)(c_law_grown : CalX P w K mg base CX0 3 "_law_grown" sp_law_grown) : CalX P w K mg base CX0 4 "_law_fills" sp_law_fills := by
  refine calx0 (k := 3) F hm sc_law_fills (b_law_fills F) (fun _ _ _ _ h => sp4_len h) (fun cdv A outer s H vs Q E hr h => ?_)
  obtain ⟨x0, x1, x2, x3, rfl, h⟩ := h
  refine ⟨_, (pss_cons (ps_set (i := 4) sc_law_fills.nd rfl (Or.inl rfl) pe_dnewK)
    (pss_cons (ps_for PassesOwn.never rfl (pi_list (pv 1)) (pg_name (i := 5) sc_law_fills.nd rfl (Or.inr rfl))
    (pss_cons (ps_set (i := 6) sc_law_fills.nd rfl (Or.inl rfl) (pe_cx c_law_take hr (by decide) rfl pass0 (pa_cons (pv 0) (pa_cons pe_int pa_nil))))
    (pss_cons (ps_set (i := 7) sc_law_fills.nd rfl (Or.inl rfl) (pe_ix ix_list (pv 2) (pe_cx c_law_take hr (by decide) rfl pass0 (pa_cons (pv 0) (pa_cons pe_int pa_nil))) (fun _ _ => rfl)))
    (pss_cons (ps_setLc (i := 8) (own := [("row", 9)]) (g := gName 9) (by rfl) sc_law_fills.nd rfl rfl (sw_true rfl rfl rfl (by decide +kernel)) (pi_list (pv 3)) (blkOk_by (own := [("row", 9)]) (N := ["pot", "words", "pool", "code", "fills", "word", "way", "kind", "near", "row"]) (sc := defScope s_law_fills) (by decide +kernel)) (fun _ _ _ _ _ => pg_name (i := 9) sc_law_fills.nd rfl (Or.inl rfl)) (fun _ _ _ _ _ => (pts_one (PW.pt (pw_and (pt_cmpR op_eq (pe_ix (r := rIxT K) ix_tup (pv 9) pe_int (fun _ _ => rfl)) pe_str (nomark _)) (pw_and1 (pt_cmpR op_eq (pe_ix (r := rIxT K) ix_tup (pv 9) pe_int (fun _ _ => rfl)) (pv 5) (nomark _))))))) (fun _ _ _ _ _ => (pe_ix (r := rIxT K) ix_tup (pv 9) pe_int (fun _ _ => rfl))))
    (Evl.pss_cut (ps_if (PW.pt (pw_and (pt_cmpR op_eq (pv 6) pe_int (nomark _)) (pw_and1 (pt_truth (pv 8) (by intro _; rfl)))))
    (pss_one (ps_set (i := 7) sc_law_fills.nd rfl (Or.inl rfl) (pe_ix ix_list (pv 8) (pe_cx c_law_take hr (by decide) rfl pass0 (pa_cons (pv 0) (pa_cons (pe_callB call_lenQ (by rfl) T.f_len PySem.boot_len (pa_cons (pv 8) pa_nil)) pa_nil))) (fun _ _ => rfl))))
    pss_nil)
    (pss_one (ps_if (pt_cmpR op_gtI (pv 6) pe_int (nomark _))
    (pss_one (ps_asg (pe_tup (pa_cons (pv 7) (pa_cons (pe_cx c_law_grown hr (by decide) rfl pass0 (pa_cons (pv 0) (pa_cons (pv 7) (pa_cons (pv 1) (pa_cons (pv 2) (pa_cons (pe_cx c_law_take hr (by decide) rfl pass0 (pa_cons (pv 0) (pa_cons pe_int pa_nil))) pa_nil)))))) pa_nil))) (pg_sub (pv 4) (pv 5) (set_dict (hu_of hr)))))
    pss_nil)))))))
    (pss_one (ps_ret (pv 4))))), ?_⟩
  rw [show start ["pot", "words", "pool", "code", "fills", "word", "way", "kind", "near", "row"] [x0, x1, x2, x3] = [some x0, some x1, some x2, some x3, none, none, none, none, none, none] from rfl]
  have ec0 : Str.ofString "var" = S [118,97,114] := S_ofs (by decide +kernel)
  rw [ec0]
  obtain ⟨a, p, q, cp, ws, c, rfl, rfl, rfl, rfl, hP, hW, hL, hd, hg, hz, hQ⟩ := h
  have hpa : p ≠ a := hW.ne hP
  have hqa : q ≠ a := hL.ne hP (by omega)
  have hca : cp ≠ a := DL.ne_pot hd hP gd_ne_int
  try dsimp only [cxOf]
  walk_at "v"
  refine w_dnew (fun fa H1 hfa0 s1 e1 => ?_)
  walk_at "v"
  have hfa : fa ≠ a := Pot.ne hP hfa0
  have P1 := hP.same s1
  obtain ⟨xs, exs, txs⟩ := hW.1
  have lxs : xs.length = 4 := by rw [txs.len, List.length_map]; exact hW.2.1
  obtain ⟨ys, ec, tc⟩ := hd
  have lys : ys.length = c.length := by rw [tc.len, gd_len]
  refine w_lstI (SqL.of (s1 _ _ exs)) ?_
  refine for_list (xs := xs) (fun i σ H' => ∃ (kv : List (Key × V)) (fb : Tb (Kd × List G2)) (v5 v6 v7 v8 v9 : Option V), σ = [some (.ref a), some (.ref p), some (.ref q), some (.ref cp), some (.ref fa), v5, v6, v7, v8, v9] ∧ Pot a H' ∧ Kb a H H' ∧ H' fa = some (.dK kv) ∧ FD H' kv i fb ∧ FbOk 11 fb)
    ⟨[], fun _ => none, _, _, _, _, _, rfl, P1, Kb.same s1, e1, ⟨Nat.le_refl _, fun p hp => absurd hp List.not_mem_nil, fun w => .inl ⟨rfl, rfl⟩⟩, fun w k c e => by cases e⟩ (fun i σ H' _ h => by obtain ⟨_, _, _, _, _, _, _, _, _, h, _⟩ := h; exact SqL.of (h _ _ hpa exs)) ?_ ?_
  · rintro i x σ G hi ⟨kv, fb, v5, v6, v7, v8, v9, rfl, Pg, kg, ef, fd_, hfb⟩
    have hi4 : i < 4 := by rw [← lxs]; exact (List.getElem?_eq_some_iff.mp hi).1
    obtain ⟨d, ed, td⟩ := (txs.tm (Kb.pot_tm hP kg)).get' hi
    obtain ⟨w, hwm, ew⟩ : ∃ w, w ∈ ws ∧ d = .str (S w) := by
      obtain ⟨w, h1, h2⟩ := List.mem_map.mp (List.mem_of_getElem? ed)
      exact ⟨w, h1, h2.symm⟩
    subst ew
    rw [td.txt]
    dsimp only [gName]
    walk_at "v"
    refine ⟨_, _, rfl, a, 3, rfl, rfl, by omega, by omega, Pg, fun v2 H2 hv2 P2 k2 => ?_⟩
    walk_at "v"
    refine ⟨_, _, rfl, a, 4, rfl, rfl, by omega, by omega, P2, fun v3 H3 hv3 P3 k3 => ?_⟩
    walk_at "v"
    have k02 := kg.tr k2
    have k03 := k02.tr k3
    refine (hL.kb hP k03 hqa).ix hv3 (fun xo ko oko szo txo => ?_)
    walk_at "v"
    have ef3 := k3 _ _ hfa (k2 _ _ hfa ef)
    have fd3 := (fd_.kb Pg k2).kb P2 k3
    have ec3 := k03 _ _ hca ec
    have tc3 := tc.tm (Kb.pot_tm hP k03)
    refine w_lstI (SqL.of ec3) ?_
    intro D hD
    have hDa : D ≠ a := P3.ne hD
    have hD0 : H D = none := fresh_kb P3 k03 hD
    refine lc_list (xs := ys) (fun j H' => Same H3 H' ∧ ∃ ks : List Kd, DL H' D (ks.map Kd.d) ∧ ks.length ≤ j ∧ ∀ k ∈ ks, k.ok ∧ k.sz ≤ 53) ⟨same_upd hD, [], ⟨[], upd_same, .nil⟩, Nat.zero_le _, fun k hk => absurd hk List.not_mem_nil⟩ (fun j H' _ h => SqL.of (h.1 _ _ ec3)) ?_ ?_
    · rintro j y H' hy ⟨sj, ks, dk, hkl, hko⟩
      have hj : j < c.length := by rw [← lys]; exact (List.getElem?_eq_some_iff.mp hy).1
      obtain ⟨d', ed', td'⟩ := (tc3.tm (Tm.same sj)).get' hy
      have ei := List.getElem?_eq_getElem hj
      have gi := hg _ (List.getElem_mem hj)
      generalize c[j] = r at ei gi
      have edr : d' = (upR r).d := by
        unfold gd cd at ed'
        rw [List.getElem?_map, List.getElem?_map, ei] at ed'
        exact (Option.some.inj ed').symm
      subst edr
      dsimp only [gName]
      refine ⟨rfl, ?_⟩
      walk_at "v"
      obtain ⟨rest, er⟩ := gw_d r
      have tdx : TD H' y (.tuple (.str (S (gw r)) :: rest)) := by rw [← er]; exact td'
      refine t_ixS (n := 0) tdx rfl ?_
      walk_at "v"
      have skip : Same H3 H' ∧ ∃ ks : List Kd, DL H' D (ks.map Kd.d) ∧ ks.length ≤ j + 1 ∧ ∀ k ∈ ks, k.ok ∧ k.sz ≤ 53 := ⟨sj, ks, dk, by omega, hko⟩
      cases r with
      | app =>
        rw [show decide (gw .app = [118, 97, 114]) = false from (show decide (wAPP = [118, 97, 114]) = false by decide)]
        walk_at "v"
        exact skip
      | lam j =>
        rw [show decide (gw (.lam j) = [118, 97, 114]) = false from (show decide (wLAM = [118, 97, 114]) = false by decide)]
        walk_at "v"
        exact skip
      | tip l =>
        cases l with
        | bnd j =>
          rw [show decide (gw (.tip (.bnd j)) = [118, 97, 114]) = false from (show decide (wBOUND = [118, 97, 114]) = false by decide)]
          walk_at "v"
          exact skip
        | cst w' k' =>
          rw [show decide (gw (.tip (.cst w' k')) = [118, 97, 114]) = false from (show decide (wCONST = [118, 97, 114]) = false by decide)]
          walk_at "v"
          exact skip
        | var w' k' =>
          rw [show decide (gw (.tip (.var w' k')) = [118, 97, 114]) = true from (show decide (wVAR = [118, 97, 114]) = true by decide)]
          walk_at "v"
          have ty : TD H' y (.tuple [.str (S wVAR), .str (S w'), k'.d]) := td'
          refine t_ixS (n := 1) ty rfl ?_
          walk_at "v"
          refine w_dec (fun hb => ?_) (fun hb => ?_)
          · walk_at "v"
            refine t_ix (n := 2) ty rfl (fun y2 ty2 => ?_)
            obtain ⟨zs, e, t⟩ := dk
            have lz := t.len
            rw [List.length_map] at lz
            have ex : Ex D H' (upd H' D (.lst (zs ++ [y2]))) := fun b hb => upd_ne hb
            have tm := Tm.ex e ex
            refine ⟨_, e, szl (show _ ≤ 100000 by omega), sj.ex hD ex, ks ++ [k'], ⟨_, upd_same, ?_⟩, by rw [List.length_append]; show ks.length + 1 ≤ j + 1; omega, fun k hk => ?_⟩
            · rw [List.map_append]; exact (t.tm tm).snoc (ty2.tm tm)
            · rcases List.mem_append.mp hk with hk | hk
              · exact hko k hk
              · rw [List.mem_singleton.mp hk]; exact ⟨gi.1.2.1, gi.2.1⟩
          · exact skip
    rintro H4 ⟨s4, ks, dk, hkl, hko⟩
    walk_at "v"
    have P4 := P3.same s4
    have k04 := k03.then s4
    have ef4 := s4 _ _ ef3
    have fd4 := fd3.same s4
    refine w_mid (fun σ H' => ∃ (u : V) (kd : Kd), σ = [some (.ref a), some (.ref p), some (.ref q), some (.ref cp), some (.ref fa), some (.str (S w)), some (.int (v2 : Int)), some u, some (.ref D), v9] ∧ Pot a H' ∧ Kb a H4 H' ∧ TD H' u kd.d ∧ kd.ok ∧ kd.sz ≤ 53) ?_ ?_
    · walk_at "v"
      have stay : ∃ (u : V) (kd : Kd), [some (.ref a), some (.ref p), some (.ref q), some (.ref cp), some (.ref fa), some (.str (S w)), some (.int (v2 : Int)), some xo, some (.ref D), v9] = [some (.ref a), some (.ref p), some (.ref q), some (.ref cp), some (.ref fa), some (.str (S w)), some (.int (v2 : Int)), some u, some (.ref D), v9] ∧ Pot a H4 ∧ Kb a H4 H4 ∧ TD H4 u kd.d ∧ kd.ok ∧ kd.sz ≤ 53 :=
        ⟨xo, ko, rfl, P4, Kb.refl _ _, txo.tm (Tm.same s4), oko, by omega⟩
      refine w_dec (fun hb => ?_) (fun hb => ?_)
      · walk_at "v"
        refine l_truth dk ?_
        rw [map_ne]
        by_cases he : ks = []
        · rw [decide_eq_false (by simp [he])]
          walk_at "v"
          exact stay
        rw [decide_eq_true he]
        walk_at "v"
        refine l_len dk ?_
        rw [List.length_map]
        walk_at "v"
        have hpos : 0 < ks.length := List.length_pos_iff.mpr he
        refine ⟨_, _, rfl, a, ks.length, rfl, rfl, hpos, by omega, P4, fun v5 H5 hv5 P5 k5 => ?_⟩
        refine l_ix (DLkb dk P4 k5 hDa) (show (ks.map Kd.d)[v5]? = some ks[v5].d by rw [List.getElem?_map, List.getElem?_eq_getElem hv5]; rfl) (fun y ty => ?_)
        walk_at "v"
        have := hko _ (List.getElem_mem hv5)
        exact ⟨y, _, rfl, P5, k5, ty, this.1, this.2⟩
      · walk_at "v"
        exact stay
    rintro σ H5 ⟨u, kd, rfl, P5, k5, tu, okd, szd⟩
    have k05 := k04.tr k5
    have ef5 := k5 _ _ hfa ef4
    have fd5 := fd4.kb P4 k5
    walk_at "v"
    refine w_dec (fun hb => ?_) (fun hb => ?_)
    · walk_at "v"
      refine w_tupN ?_
      walk_at "v"
      refine ⟨_, _, rfl, a, 6, rfl, rfl, by omega, by omega, P5, fun v6 H6 hv6 P6 k6 => ?_⟩
      walk_at "v"
      have k06 := k05.tr k6
      have tu6 := tu.tm (Kb.pot_tm P5 k6)
      refine ⟨_, _, _, _, _, rfl, a, p, q, kd, v6, ws, rfl, tu6, rfl, rfl, rfl, P6, hW.kb hP k06 hpa, hL.kb hP k06 hqa, okd, szd, by omega, fun r H7 c7 hr7 d7 tf7 g7 l7 P7 k7 => ?_⟩
      walk_at "v"
      have k07 := k06.tr k7
      have tu7 := tu6.tm (Kb.pot_tm P6 k7)
      refine n_T (fun b H8 hb8 s8 e8 => ?_)
      walk_at "v"
      have ef8 := s8 _ _ (k7 _ _ hfa (k6 _ _ hfa ef5))
      have fd8 := ((fd5.kb P5 k6).kb P6 k7).same s8
      refine k_put (k := Sum.inr (S w)) ef8 (by have := fd8.1; omega) (fun H9 e9 x9 => ?_)
      have tm9 := Tm.exK ef8 x9
      have d9 : DL H9 r (gd c7) := by
        obtain ⟨zs, e, t⟩ := d7.same s8
        exact ⟨zs, by rw [x9 r (ne_lst_dk e ef8)]; exact e, t.tm tm9⟩
      refine ⟨_, setT fb w (kd, c7), _, _, _, _, _, rfl, (P7.same s8).ex x9 hfa.symm, (k07.then s8).ex hfa0 x9, e9, FD.put (fd8.exD ef8 x9) (tm9 _ _ e8) ((tu7.tm (Tm.same s8)).tm tm9) d9, fun w' k' c' e' => ?_⟩
      unfold setT at e'
      split at e'
      · cases e'
        exact ⟨⟨okd, by omega⟩, tf7, fun r hr => (g7 r hr).1, by omega, fun t ht => by
          have h1 := fo_nodes1 tf7.1 ht
          have h2 := dep_nodes t
          omega⟩
      · exact hfb w' k' c' e'
    · walk_at "v"
      exact ⟨kv, fb, _, _, _, _, _, rfl, P5, k05, ef5, ⟨Nat.le_trans fd5.1 (Nat.le_succ _), fd5.2⟩, hfb⟩
  · rintro σ G ⟨kv, fb, v5, v6, v7, v8, v9, rfl, Pg, kg, ef, fd_, hfb⟩
    rw [lxs] at fd_
    walk_at "v"
    exact hQ fa G kv fb hfa0 ef fd_ hfb Pg kg
end
end K01

namespace K01
open PySem PySem.Spec PyProof.Rows L2 SX K02
local macro_rules | `(tactic| walk_at "w1") => `(tactic| (first
  | with_reducible refine w_seq ?_ | with_reducible refine w_asgN ?_ | with_reducible refine w_c ?_
  | ((with_reducible refine' w_var ?wv ?_); (case wv => exact rfl))
  | with_reducible refine w_op ?_ | with_reducible refine w_un ?_ | with_reducible refine w_next ?_ | with_reducible refine w_brk ?_ | with_reducible refine w_cnt ?_
  | with_reducible refine w_ifS ?_ | with_reducible refine w_if ?_ | with_reducible refine w_test ?_ | with_reducible refine w_tB ?_ | with_reducible refine w_bl ?_ | with_reducible refine w_blI ?_
  | with_reducible refine w_and ?_ | with_reducible refine w_or ?_ | with_reducible refine w_not ?_ | with_reducible refine w_andV ?_ | with_reducible refine w_orV ?_ | with_reducible refine w_notV ?_
  | with_reducible refine w_nil ?_ | with_reducible refine w_cons ?_ | with_reducible refine w_cb ?_ | with_reducible refine w_call ?_ | with_reducible refine w_callS ?_ | with_reducible refine w_chain ?_
  | with_reducible refine w_tupN ?_ | with_reducible refine w_lstN ?_ | with_reducible refine w_sl ?_ | with_reducible refine w_noPart ?_ | with_reducible refine w_part ?_ | with_reducible refine w_partI ?_
  | with_reducible refine w_ret ?_ | with_reducible refine w_retN ?_ | with_reducible refine w_drop ?_ | with_reducible refine w_asg ?_ | with_reducible refine w_gSub ?_
  | ((with_reducible refine' w_aug ?wv ?_); (case wv => exact rfl)) | with_reducible refine w_ipI ?_
  | with_reducible refine w_addI ?_ | with_reducible refine w_subI ?_ | with_reducible refine w_ltI ?_ | with_reducible refine w_leI ?_ | with_reducible refine w_gtI ?_ | with_reducible refine w_geI ?_
  | with_reducible refine w_eqI ?_ | with_reducible refine w_neI ?_ | with_reducible refine w_eqT ?_ | with_reducible refine w_neT ?_ | with_reducible refine w_inS ?_ | with_reducible refine w_ninS ?_
  | with_reducible refine w_absI ?_ | with_reducible refine w_intI ?_ | with_reducible refine w_maxI ?_ | with_reducible refine w_minI ?_
  | with_reducible refine w_for ?_ | with_reducible refine w_iR1 ?_ | with_reducible refine w_iR2 ?_ | with_reducible refine w_iStr ?_ | with_reducible refine w_strI ?_ | with_reducible refine w_iList ?_ | with_reducible refine w_iTup ?_
  | with_reducible refine w_bm ?_ | with_reducible refine w_bm0 ?_ | with_reducible refine w_t ?_ | with_reducible refine w_f ?_ | with_reducible refine w_nt ?_ | with_reducible refine w_nx ?_ | with_reducible refine w_rt ?_ | with_reducible refine w_bk ?_ | with_reducible refine w_ct ?_ | with_reducible refine w_nf ?_ | with_reducible refine w_lc ?_ | with_reducible refine w_yes ?_ | with_reducible refine w_neg ?_ | with_reducible refine w_intB ?_ | with_reducible refine w_fld ?_ | with_reducible refine w_setf ?_ | with_reducible refine w_faug ?_ | with_reducible refine w_meth ?_ | with_reducible refine w_bmS ?_ | with_reducible refine w_start ?_ | with_reducible refine w_revL ?_ | with_reducible refine w_iR3 ?_))
local macro_rules | `(tactic| walk_at "w") => `(tactic| (repeat (first | walk_at "w1" | dsimp (config := { proj := false }) only [List.set_cons_zero, List.set_cons_succ])))
section
variable {w : World} {K : PySem.W.Frag} {mg : Str → Option Value} {base : Heap}
local macro_rules | `(tactic| walk_at "v1") => `(tactic| (first
  | with_reducible refine w_seq ?_ | with_reducible refine w_asgN ?_ | with_reducible refine w_c ?_
  | ((with_reducible refine' w_var ?wv ?_); (case wv => exact rfl))
  | with_reducible refine w_op ?_ | with_reducible refine w_un ?_ | with_reducible refine w_next ?_ | with_reducible refine w_brk ?_ | with_reducible refine w_cnt ?_
  | with_reducible refine w_ifS ?_ | with_reducible refine w_if ?_ | with_reducible refine w_test ?_ | with_reducible refine w_tB ?_ | with_reducible refine w_bl ?_ | with_reducible refine w_blI ?_
  | with_reducible refine w_and ?_ | with_reducible refine w_or ?_ | with_reducible refine w_not ?_ | with_reducible refine w_andV ?_ | with_reducible refine w_orV ?_ | with_reducible refine w_notV ?_
  | with_reducible refine w_nil ?_ | with_reducible refine w_cons ?_ | with_reducible refine w_cb ?_ | with_reducible refine w_call ?_ | with_reducible refine w_callS ?_ | with_reducible refine w_chain ?_
  | with_reducible refine w_sl ?_ | with_reducible refine w_noPart ?_ | with_reducible refine w_part ?_ | with_reducible refine w_partI ?_
  | with_reducible refine w_ret ?_ | with_reducible refine w_retN ?_ | with_reducible refine w_drop ?_ | with_reducible refine w_asg ?_ | with_reducible refine w_gSub ?_
  | ((with_reducible refine' w_aug ?wv ?_); (case wv => exact rfl)) | with_reducible refine w_ipI ?_
  | with_reducible refine w_addI ?_ | with_reducible refine w_subI ?_ | with_reducible refine w_ltI ?_ | with_reducible refine w_leI ?_ | with_reducible refine w_gtI ?_ | with_reducible refine w_geI ?_
  | with_reducible refine w_eqI ?_ | with_reducible refine w_neI ?_ | with_reducible refine w_eqT ?_ | with_reducible refine w_neT ?_ | with_reducible refine w_inS ?_ | with_reducible refine w_ninS ?_
  | with_reducible refine w_absI ?_ | with_reducible refine w_intI ?_ | with_reducible refine w_maxI ?_ | with_reducible refine w_minI ?_
  | with_reducible refine w_for ?_ | with_reducible refine w_iR1 ?_ | with_reducible refine w_iR2 ?_ | with_reducible refine w_iStr ?_ | with_reducible refine w_strI ?_ | with_reducible refine w_iList ?_ | with_reducible refine w_iTup ?_
  | with_reducible refine w_bm ?_ | with_reducible refine w_bm0 ?_ | with_reducible refine w_t ?_ | with_reducible refine w_f ?_ | with_reducible refine w_nt ?_ | with_reducible refine w_nx ?_ | with_reducible refine w_rt ?_ | with_reducible refine w_bk ?_ | with_reducible refine w_ct ?_ | with_reducible refine w_nf ?_ | with_reducible refine w_lc ?_ | with_reducible refine w_yes ?_ | with_reducible refine w_neg ?_ | with_reducible refine w_intB ?_ | with_reducible refine w_fld ?_ | with_reducible refine w_setf ?_ | with_reducible refine w_faug ?_ | with_reducible refine w_meth ?_ | with_reducible refine w_bmS ?_ | with_reducible refine w_start ?_ | with_reducible refine w_revL ?_ | with_reducible refine w_iR3 ?_))
local macro_rules | `(tactic| walk_at "v") => `(tactic| (repeat (first | walk_at "v1" | dsimp (config := { proj := false }) only [List.set_cons_zero, List.set_cons_succ])))
local macro_rules | `(tactic| walk_at "d") => `(tactic| (repeat (first | exact eva_nil | refine eva_cons ?_ ?_ | exact ev_str | exact ev_int | exact ev_neg | refine ev_tup ?_ | (refine ev_var rfl ?_; assumption))))


theorem pairs_short : ∀ {es : List (List Nat × Kd)}, (∀ e ∈ es, PairOk e ∧ e.1.length ≤ 16) → PyData.leavesShortAll 13 (es.map pairD) = true ∧ PyData.showableAll (es.map pairD) = true ∧ PyData.weightAll (es.map pairD) ≤ 1500 * es.length ∧ PyData.eqvAll (es.map pairD) (es.map pairD) = true
  | [], _ => ⟨rfl, rfl, Nat.le_refl _, rfl⟩
  | (w, k) :: es, h => by
    obtain ⟨a, b, c, d⟩ := pairs_short fun e he => h e (List.mem_cons_of_mem _ he)
    obtain ⟨⟨h1, h2⟩, h3⟩ := h (w, k) List.mem_cons_self
    have h1 : Cok w := h1
    have h2 : GK k := h2
    have h3 : w.length ≤ 16 := h3
    have hw := gk_weight h2
    refine ⟨?_, ?_, ?_, ?_⟩
    · show ((PyData.tuple [.str (S w), k.d]).leavesShort 13 && PyData.leavesShortAll 13 (es.map pairD)) = true
      rw [ls2 _ _ (lvs h1) (kd_short k h2.1), a]; rfl
    · show ((PyData.tuple [.str (S w), k.d]).showable && PyData.showableAll (es.map pairD)) = true
      rw [sh2 _ _ (shS _) k.show_, b]; rfl
    · show (PyData.tuple [.str (S w), k.d]).weight + 1 + PyData.weightAll (es.map pairD) ≤ 1500 * (es.length + 1)
      rw [wt2, wtS]; omega
    · show (PyData.eqv (pairD (w, k)) (pairD (w, k)) && PyData.eqvAll (es.map pairD) (es.map pairD)) = true
      rw [pair_eqv, d]; simp
theorem shw_pairs {es : List (List Nat × Kd)} (h : ∀ e ∈ es, PairOk e ∧ e.1.length ≤ 16) (n : es.length ≤ 200) : Shw (.tuple (es.map pairD)) := by
  obtain ⟨a, b, c, d⟩ := pairs_short h
  have hl := pairs_lay fun e he => (h e he).1
  have z : (PyData.tuple (es.map pairD)).leavesShort 13 = true := by simp only [PyData.leavesShort]; exact a
  have y := PyData.shown_le 13 (by decide) (.tuple (es.map pairD)) z
  have w : (PyData.tuple (es.map pairD)).weight = PyData.weightAll (es.map pairD) := by simp only [PyData.weight]
  refine ⟨⟨by simp only [PyData.canLay0]; exact hl.1, by simp only [PyData.depth]; have := hl.2; omega⟩, by simp only [PyData.eqv]; exact d, by simp only [PyData.showable]; exact b, ?_⟩
  rw [w] at y
  omega
theorem onceC_all {b : Bool} {c : List G2} {ws : List (List Nat)} (h : ∀ r ∈ c, r.gok ∧ fine ws r) : ∀ e ∈ onceC b c, (PairOk e ∧ e.1.length ≤ 16) ∧ e.2.sz ≤ 53 ∧ (b = true → isName e.1 = true) := by
  unfold onceC
  refine fold_all _ _ (fun e he => absurd he List.not_mem_nil) (fun e he => ?_)
  obtain ⟨r, hr, e1⟩ := List.mem_filterMap.mp he
  obtain ⟨g, f⟩ := h r hr
  refine ⟨⟨sel_ok g e1, ?_⟩, ?_, ?_⟩
  · cases r with
    | app => cases e1
    | lam k => cases e1
    | tip x =>
      cases x with
      | bnd i => cases e1
      | var w k => cases b <;> cases e1; exact (name_cok g.1).2
      | cst w k => cases b <;> cases e1; exact (lg_cok g.1).2
  · cases r with
    | app => cases e1
    | lam k => cases e1
    | tip x =>
      cases x with
      | bnd i => cases e1
      | var w k => cases b <;> cases e1; exact f.1
      | cst w k => cases b <;> cases e1; exact f
  · intro hb
    subst hb
    cases r with
    | app => cases e1
    | lam k => cases e1
    | tip x =>
      cases x with
      | bnd i => cases e1
      | var w k => cases e1; exact g.1
      | cst w k => cases e1
theorem onceC_len (b : Bool) (c : List G2) : (onceC b c).length ≤ c.length := by
  have h := fold_le (c.filterMap (rowSel b)) []
  have h2 := List.length_filterMap_le (rowSel b) c
  unfold onceC
  exact Nat.le_trans h (by rw [List.length_nil]; omega)
theorem notIn_lvs {nw : List Nat} : ∀ g : Gt, (∀ w k, Lf.var w k ∈ lvs1 g → w ≠ nw) → notIn nw g
  | .app f a, h => ⟨notIn_lvs f fun w k z => h w k (List.mem_append_left _ z), notIn_lvs a fun w k z => h w k (List.mem_append_right _ z)⟩
  | .lam j b, h => notIn_lvs b h
  | .tip (.var w k), h => h w k (List.mem_singleton.mpr rfl)
  | .tip (.bnd _), _ => trivial
  | .tip (.cst _ _), _ => trivial
theorem tips_mem : ∀ {c : List G2} {x : Lf}, x ∈ tipsC c → (.tip x : G2) ∈ c
  | .app :: c, x, h => List.mem_cons_of_mem _ (tips_mem (c := c) h)
  | .lam k :: c, x, h => List.mem_cons_of_mem _ (tips_mem (c := c) h)
  | .tip y :: c, x, h => by
    rcases List.mem_cons.mp (show x ∈ y :: tipsC c from h) with rfl | h
    · exact List.mem_cons_self
    · exact List.mem_cons_of_mem _ (tips_mem (c := c) h)
theorem fine_notIn {c : List G2} {t : Gt} {ws : List (List Nat)} {nw : List Nat} (hok : fok c) (hfo : fo c = [t]) (h : ∀ r ∈ c, fine ws r) (hn : nw ∉ ws) : notIn nw t := by
  refine notIn_lvs t fun w k z => ?_
  rw [fo_leaves1 hok hfo] at z
  have := h _ (tips_mem z)
  exact fun e => hn (e ▸ this.2)
theorem lam_code {j : Kd} {c : List G2} {t : Gt} (hok : fok (.lam j :: c)) (hfo : fo (.lam j :: c) = [t]) : ∃ b, fok c ∧ fo c = [b] ∧ t = .lam j b := by
  obtain ⟨m, hm, hv⟩ := Vc.uncons (⟨hok, by rw [hfo]; rfl⟩ : Vc (.lam j :: c) 1)
  have hm0 : m = 0 := by omega
  subst hm0
  have hv : Vc c 1 := hv
  obtain ⟨b, hb⟩ := hv.tree
  refine ⟨b, hv.1, hb, ?_⟩
  have e : fo (.lam j :: c) = push1 (.lam j) (fo c) := rfl
  rw [e, hb] at hfo
  exact (List.cons.inj hfo).1.symm
def sp_law_general : Sp := sp3 fun x y z H Q _ => ∃ (a p q : Addr) (ws : List (List Nat)), x = .ref a ∧ y = .ref p ∧ z = .ref q ∧ Pot a H ∧ NmW ws H p ∧ PoL H q ∧ ∀ H', Pot a H' → Kb a H H' → Q (.bl true) H'
theorem ok_law_general (T : Txt w K mg) {fd : FuncData} (F : Fn_law_general K fd) (hm : mg "_law_general" = some (.ref (He.ga K "_law_general"))) (c_law_take : CalX P w K mg base CX0 1 "_law_take" sp_law_take)(c_law_grown : CalX P w K mg base CX0 3 "_law_grown" sp_law_grown)(c_law_built : CalX P w K mg base CX0 1 "_law_built" sp_law_built)(c_free_vars : CalX P w K mg base CX0 3 "free_vars" sp_free_vars)(c_term_consts : CalX P w K mg base CX0 3 "term_consts" sp_term_consts)(c_law_once : CalX P w K mg base CX0 1 "_law_once" sp_law_once)(c_law_same : CalG P w K mg base CX0 1 "_law_same" sp_law_same)(c_law_new : CalX P w K mg base CX0 1 "_law_new" sp_law_new)(c_law_ask_abstract : CalG P w K mg base CX0 134 "_law_ask_abstract" sp_law_ask_abstract)(c_law_told_instance : CalX P w K mg base CX0 133 "_law_told_instance" sp_law_told_instance)(c_law_instantiated : CalX P w K mg base CX0 2 "_law_instantiated" sp_law_instantiated)(c_law_right : CalG P w K mg base CX0 2 "_law_right" sp_law_right)(c_law_fills : CalX P w K mg base CX0 4 "_law_fills" sp_law_fills)(c_law_ask_put : CalG P w K mg base CX0 134 "_law_ask_put" sp_law_ask_put)(c_law_ask_kinds : CalG P w K mg base CX0 154 "_law_ask_kinds" sp_law_ask_kinds) : CalG P w K mg base CX0 155 "_law_general" sp_law_general := by
  refine calg0 (k := 154) F hm sc_law_general (b_law_general F) (fun _ _ _ _ h => sp3_len h) (fun cdv A outer s H vs Q E hr h => ?_)
  obtain ⟨x0, x1, x2, rfl, h⟩ := h
  refine ⟨_, (pss_cons (ps_set (i := 3) sc_law_general.nd rfl (Or.inl rfl) (pe_op op_addI pe_int (pe_cx c_law_take hr.toRoom (by decide) rfl pass0 (pa_cons (pv 0) (pa_cons pe_int pa_nil)))))
    (Evl.pss_cut (ps_if (pt_cmpR op_eq (pe_cx c_law_take hr.toRoom (by decide) rfl pass0 (pa_cons (pv 0) (pa_cons pe_int pa_nil))) pe_int (nomark _))
    (pss_one (ps_set (i := 3) sc_law_general.nd rfl (Or.inl rfl) pe_int))
    pss_nil)
    (pss_cons (ps_set (i := 4) sc_law_general.nd rfl (Or.inl rfl) (pe_cx c_law_grown hr.toRoom (by decide) rfl pass0 (pa_cons (pv 0) (pa_cons (pe_ix ix_list (pv 2) (pe_cx c_law_take hr.toRoom (by decide) rfl pass0 (pa_cons (pv 0) (pa_cons pe_int pa_nil))) (fun _ _ => rfl)) (pa_cons (pv 1) (pa_cons (pv 2) (pa_cons (pv 3) pa_nil)))))))
    (pss_cons (ps_set (i := 5) sc_law_general.nd rfl (Or.inl rfl) (pe_cx c_law_built hr.toRoom (by decide) rfl pass0 (pa_cons (pv 4) pa_nil)))
    (pss_cons (ps_if (pt_not (pt_val (pe_cg c_law_same hr (by decide) rfl pass0 (pa_cons (pe_cx c_free_vars hr.toRoom (by decide) rfl pass0 (pa_cons (pv 5) pa_nil)) (pa_cons (pe_cx c_law_once hr.toRoom (by decide) rfl pass0 (pa_cons (pv 4) (pa_cons pe_str pa_nil))) pa_nil)))))
    (pss_one (ps_ret pe_bl))
    pss_nil)
    (pss_cons (ps_if (pt_not (pt_val (pe_cg c_law_same hr (by decide) rfl pass0 (pa_cons (pe_cx c_term_consts hr.toRoom (by decide) rfl pass0 (pa_cons (pv 5) pa_nil)) (pa_cons (pe_cx c_law_once hr.toRoom (by decide) rfl pass0 (pa_cons (pv 4) (pa_cons pe_str pa_nil))) pa_nil)))))
    (pss_one (ps_ret pe_bl))
    pss_nil)
    (pss_cons (ps_set (i := 6) sc_law_general.nd rfl (Or.inl rfl) (pe_ix ix_list (pv 1) (pe_cx c_law_take hr.toRoom (by decide) rfl pass0 (pa_cons (pv 0) (pa_cons pe_int pa_nil))) (fun _ _ => rfl)))
    (pss_cons (ps_set (i := 7) sc_law_general.nd rfl (Or.inl rfl) (pe_ix ix_list (pv 2) (pe_cx c_law_take hr.toRoom (by decide) rfl pass0 (pa_cons (pv 0) (pa_cons pe_int pa_nil))) (fun _ _ => rfl)))
    (pss_cons (ps_set (i := 8) sc_law_general.nd rfl (Or.inl rfl) (pe_cx c_law_once hr.toRoom (by decide) rfl pass0 (pa_cons (pv 4) (pa_cons pe_str pa_nil))))
    (Evl.pss_cut (ps_if (PW.pt (pw_and (pt_truth (pv 8) (by intro _; rfl)) (pw_and1 (pt_cmpR op_ne (pe_cx c_law_take hr.toRoom (by decide) rfl pass0 (pa_cons (pv 0) (pa_cons pe_int pa_nil))) pe_int (nomark _)))))
    (pss_one (ps_asg (pe_ix ix_tup (pv 8) (pe_cx c_law_take hr.toRoom (by decide) rfl pass0 (pa_cons (pv 0) (pa_cons (pe_callB call_lenQ (by rfl) T.f_len PySem.boot_len (pa_cons (pv 8) pa_nil)) pa_nil))) (fun _ _ => rfl)) (pg_tup (by rfl) (pgs_cons (pg_name (i := 6) sc_law_general.nd rfl (Or.inl rfl)) (pgs_cons (pg_name (i := 7) sc_law_general.nd rfl (Or.inl rfl)) pgs_nil)))))
    pss_nil)
    (pss_cons (ps_set (i := 9) sc_law_general.nd rfl (Or.inl rfl) (pe_cx c_law_grown hr.toRoom (by decide) rfl pass0 (pa_cons (pv 0) (pa_cons (pv 7) (pa_cons (pv 1) (pa_cons (pv 2) (pa_cons (pe_cx c_law_take hr.toRoom (by decide) rfl pass0 (pa_cons (pv 0) (pa_cons pe_int pa_nil))) pa_nil)))))))
    (pss_cons (ps_if (pt_not (pt_val (pe_cg c_law_ask_abstract hr (by decide) rfl pass0 (pa_cons (pv 4) (pa_cons (pv 6) (pa_cons (pv 7) (pa_cons (pv 9) (pa_cons (pe_cx c_law_new hr.toRoom (by decide) rfl pass0 (pa_cons (pv 1) pa_nil)) pa_nil))))))))
    (pss_one (ps_ret pe_bl))
    pss_nil)
    (Evl.pss_cut (ps_if (pt_cmpR op_eq (pe_ix ix_tup (pe_ix ix_list (pv 4) pe_int (fun _ _ => rfl)) pe_int (fun _ _ => rfl)) pe_str (nomark _))
    (pss_cons (ps_set (i := 9) sc_law_general.nd rfl (Or.inl rfl) (pe_cx c_law_grown hr.toRoom (by decide) rfl pass0 (pa_cons (pv 0) (pa_cons (pe_ix ix_tup (pe_ix ix_list (pv 4) pe_int (fun _ _ => rfl)) pe_int (fun _ _ => rfl)) (pa_cons (pv 1) (pa_cons (pv 2) (pa_cons (pe_cx c_law_take hr.toRoom (by decide) rfl pass0 (pa_cons (pv 0) (pa_cons pe_int pa_nil))) pa_nil)))))))
    (pss_cons (ps_set (i := 10) sc_law_general.nd rfl (Or.inl rfl) (pe_cx c_law_told_instance hr.toRoom (by decide) rfl pass0 (pa_cons (pe_cx c_law_built hr.toRoom (by decide) rfl pass0 (pa_cons (pe_slice sl_list (pv 4) (po_some pe_int) po_none) pa_nil)) (pa_cons (pe_cx c_law_built hr.toRoom (by decide) rfl pass0 (pa_cons (pv 9) pa_nil)) pa_nil))))
    (pss_one (ps_if (pt_not (pt_val (pe_cg c_law_right hr (by decide) rfl pass0 (pa_cons (pv 10) (pa_cons (pe_cx c_law_instantiated hr.toRoom (by decide) rfl pass0 (pa_cons (pe_slice sl_list (pv 4) (po_some pe_int) po_none) (pa_cons (pv 9) pa_nil))) pa_nil)))))
    (pss_one (ps_ret pe_bl))
    pss_nil))))
    pss_nil)
    (pss_cons (ps_if (pt_not (pt_val (pe_cg c_law_ask_put hr (by decide) rfl pass0 (pa_cons (pv 4) (pa_cons (pe_cx c_law_fills hr.toRoom (by decide) rfl pass0 (pa_cons (pv 0) (pa_cons (pv 1) (pa_cons (pv 2) (pa_cons (pv 4) pa_nil))))) pa_nil)))))
    (pss_one (ps_ret pe_bl))
    pss_nil)
    (pss_one (ps_ret (pe_cg c_law_ask_kinds hr (by decide) rfl pass0 (pa_cons (pv 0) (pa_cons (pv 1) (pa_cons (pv 2) (pa_cons (pv 4) pa_nil))))))))))))))))))))), ?_⟩
  rw [show start ["pot", "words", "pool", "most", "code", "term", "word", "kind", "known", "filler", "told"] [x0, x1, x2] = [some x0, some x1, some x2, none, none, none, none, none, none, none, none] from rfl]
  have ec0 : Str.ofString "var" = S [118,97,114] := S_ofs (by decide +kernel)
  have ec1 : Str.ofString "lam" = S [108,97,109] := S_ofs (by decide +kernel)
  have ec2 : Str.ofString "const" = S [99,111,110,115,116] := S_ofs (by decide +kernel)
  rw [ec0, ec1, ec2]
  obtain ⟨a, p, q, ws, rfl, rfl, rfl, hP, hW, hL, hQ⟩ := h
  have hpa : p ≠ a := hW.ne hP
  have hqa : q ≠ a := hL.ne hP (by omega)
  try dsimp only [cxOf]
  walk_at "v"
  refine ⟨_, _, rfl, a, 12, rfl, rfl, by omega, by omega, hP, fun v2 H2 hv2 P2 k2 => ?_⟩
  walk_at "v"
  refine w_mid (fun σ H' => ∃ m : Nat, σ = [some (.ref a), some (.ref p), some (.ref q), some (.int (m : Int)), none, none, none, none, none, none, none] ∧ m ≤ 40 ∧ Pot a H' ∧ Kb a H H') ?_ ?_
  · walk_at "v"
    refine ⟨_, _, rfl, a, 4, rfl, rfl, by omega, by omega, P2, fun v3 H3 hv3 P3 k3 => ?_⟩
    walk_at "v"
    refine w_dec (fun hb => ?_) (fun hb => ?_)
    · walk_at "v"
      exact ⟨40, rfl, by omega, P3, k2.tr k3⟩
    · walk_at "v"
      exact ⟨1 + v2, by rw [show ((1 : Int) + (v2 : Int)) = ((1 + v2 : Nat) : Int) by omega], by omega, P3, k2.tr k3⟩
  clear P2 k2 hv2 v2 H2
  rintro σ H3 ⟨m, rfl, hm, P3, k3⟩
  walk_at "v"
  refine ⟨_, _, rfl, a, 4, rfl, rfl, by omega, by omega, P3, fun v4 H4 hv4 P4 k4 => ?_⟩
  walk_at "v"
  have k04 := k3.tr k4
  refine (hL.kb hP k04 hqa).ix hv4 (fun xk kk okk szk tk => ?_)
  walk_at "v"
  refine ⟨_, _, _, _, _, rfl, a, p, q, kk, m, ws, rfl, tk, rfl, rfl, rfl, P4, hW.kb hP k04 hpa, hL.kb hP k04 hqa, okk, by omega, by omega, fun cp H5 c h5 d5 tf g5 l5 P5 k5 => ?_⟩
  have k05 := k04.tr k5
  obtain ⟨t, hok, hfo, hty⟩ := tf.one
  have hlc : c.length ≤ 81 := by omega
  have ggok : ∀ r ∈ c, r.gok := fun r hr => (g5 r hr).1
  have gt := gok_of hok hfo ggok
  have hnt := fo_nodes1 hok hfo
  have hdn := dep_nodes t
  have hsc : inScope t 0 = true := typed_scope hty
  have hca : cp ≠ a := DL.ne_pot d5 P5 gd_ne_int
  walk_at "v"
  refine ⟨_, rfl, cp, c, t, rfl, d5, hok, hfo, by omega, fun xt H6 s6 t6 => ?_⟩
  walk_at "v"
  refine ⟨_, rfl, t, t6, gt, by omega, fun u7 H7 s7 t7 => ?_⟩
  walk_at "v"
  have s57 := s6.tr s7
  refine ⟨_, _, rfl, cp, c, true, rfl, rfl, d5.same s57, by omega, ggok, fun u8 H8 s8 t8 => ?_⟩
  walk_at "v"
  rw [once_eq hok hfo true] at t7
  have oc := fun b => onceC_all (b := b) g5
  have ol := fun b => onceC_len b c
  refine ⟨_, _, rfl, _, t7.tm (Tm.same s8), t8, shw_pairs (fun e he => (oc true e he).1) (by have := ol true; omega), ?_⟩
  walk_at "v"
  have s58 := s57.tr s8
  refine ⟨_, rfl, t, t6.tm (Tm.same (s7.tr s8)), gt, by omega, fun u9 H9 s9 t9 => ?_⟩
  walk_at "v"
  have s59 := s58.tr s9
  refine ⟨_, _, rfl, cp, c, false, rfl, rfl, d5.same s59, by omega, ggok, fun ua Ha sa ta => ?_⟩
  walk_at "v"
  rw [once_eq hok hfo false] at t9
  refine ⟨_, _, rfl, _, t9.tm (Tm.same sa), ta, shw_pairs (fun e he => (oc false e he).1) (by have := ol false; omega), ?_⟩
  walk_at "v"
  have s5a := s59.tr sa
  have Pa := P5.same s5a
  have k0a := k05.then s5a
  refine ⟨_, _, rfl, a, 4, rfl, rfl, by omega, by omega, Pa, fun v11 H11 hv11 P11 k11 => ?_⟩
  walk_at "v"
  have k0b := k0a.tr k11
  refine (hW.kb hP k0b hpa).ix hv11 (fun w0 nw0 => ?_)
  walk_at "v"
  refine ⟨_, _, rfl, a, 4, rfl, rfl, by omega, by omega, P11, fun v12 H12 hv12 P12 k12 => ?_⟩
  walk_at "v"
  have k0c := k0b.tr k12
  refine (hL.kb hP k0c hqa).ix hv12 (fun x12 k12' ok12 sz12 t12 => ?_)
  walk_at "v"
  have k5c := ((Kb.same (a := a) s5a).tr k11).tr k12
  have d12 := DLkb d5 P5 k5c hca
  refine ⟨_, _, rfl, cp, c, true, rfl, rfl, d12, by omega, ggok, fun u13 H13 s13 t13 => ?_⟩
  walk_at "v"
  have P13 := P12.same s13
  have k5d := k5c.then s13
  have k0d := k05.tr k5d
  refine w_mid (fun σ H' => ∃ (w : List Nat) (u : V) (kd : Kd), σ = [some (.ref a), some (.ref p), some (.ref q), some (.int (m : Int)), some (.ref cp), some xt, some (.str (S w)), some u, some u13, none, none] ∧ Pot a H' ∧ Kb a H5 H' ∧ isName w = true ∧ kd.ok ∧ kd.sz ≤ 53 ∧ TD H' u kd.d) ?_ ?_
  · have stay : ∃ (w : List Nat) (u : V) (kd : Kd), [some (.ref a), some (.ref p), some (.ref q), some (.int (m : Int)), some (.ref cp), some xt, some (.str (S w0)), some x12, some u13, none, none] = [some (.ref a), some (.ref p), some (.ref q), some (.int (m : Int)), some (.ref cp), some xt, some (.str (S w)), some u, some u13, none, none] ∧ Pot a H13 ∧ Kb a H5 H13 ∧ isName w = true ∧ kd.ok ∧ kd.sz ≤ 53 ∧ TD H13 u kd.d :=
      ⟨w0, x12, k12', rfl, P13, k5d, nw0.1, ok12, by omega, t12.tm (Tm.same s13)⟩
    walk_at "v"
    refine t_truth t13 ?_
    rw [map_ne]
    by_cases he : onceC true c = []
    · rw [decide_eq_false (by simp [he])]
      walk_at "v"
      exact stay
    rw [decide_eq_true he]
    walk_at "v"
    refine ⟨_, _, rfl, a, 4, rfl, rfl, by omega, by omega, P13, fun v14 H14 hv14 P14 k14 => ?_⟩
    walk_at "v"
    refine w_ndec (fun hb => ?_) (fun hb => ?_)
    · walk_at "v"
      have t14 := t13.tm (Kb.pot_tm P13 k14)
      refine t_len t14 ?_
      rw [List.length_map]
      walk_at "v"
      have hpos : 0 < (onceC true c).length := List.length_pos_iff.mpr he
      refine ⟨_, _, rfl, a, (onceC true c).length, rfl, rfl, hpos, by have := ol true; omega, P14, fun v15 H15 hv15 P15 k15 => ?_⟩
      refine t_ix (t14.tm (Kb.pot_tm P14 k15)) (show ((onceC true c).map pairD)[v15]? = some (pairD (onceC true c)[v15]) by rw [List.getElem?_map, List.getElem?_eq_getElem hv15]; rfl) (fun y ty => ?_)
      have hm := oc true _ (List.getElem_mem hv15)
      generalize (onceC true c)[v15] = e at ty hm
      obtain ⟨w, k⟩ := e
      obtain ⟨q2, qs, rfl, hq2, tqs⟩ := ty.tuple
      obtain ⟨y1, y2, rfl, ty1, ty2⟩ := tqs.two
      rw [ty1.txt] at hq2
      refine w_un2 rfl hq2 ?_
      exact ⟨w, y2, k, rfl, P15, (k5d.tr k14).tr k15, hm.2.2 rfl, hm.1.1.2.1, hm.2.1, ty2⟩
    · walk_at "v"
      exact ⟨w0, x12, k12', rfl, P14, k5d.tr k14, nw0.1, ok12, by omega, (t12.tm (Tm.same s13)).tm (Kb.pot_tm P13 k14)⟩
  rintro σ H14 ⟨w, u, kd, rfl, P14, k5e, hw, okd, szd, tu⟩
  have k0e := k05.tr k5e
  walk_at "v"
  refine ⟨_, _, rfl, a, 9, rfl, rfl, by omega, by omega, P14, fun v15 H15 hv15 P15 k15 => ?_⟩
  walk_at "v"
  have k0f := k0e.tr k15
  have tu15 := tu.tm (Kb.pot_tm P14 k15)
  refine ⟨_, _, _, _, _, rfl, a, p, q, kd, v15, ws, rfl, tu15, rfl, rfl, rfl, P15, hW.kb hP k0f hpa, hL.kb hP k0f hqa, okd, szd, by omega, fun fp H16 fc h16 d16 tf16 g16 l16 P16 k16 => ?_⟩
  have k5g := (k5e.tr k15).tr k16
  have k0g := k05.tr k5g
  obtain ⟨tv, hokv, hfov, htyv⟩ := tf16.one
  have hnv := fo_nodes1 hokv hfov
  have hdv := dep_nodes tv
  have tu16 := tu15.tm (Kb.pot_tm P15 k16)
  walk_at "v"
  have hW16 := hW.kb hP k0g hpa
  refine ⟨_, rfl, p, ws, rfl, hW16.1, hW16.2.1, fun nw hnw hni => ?_⟩
  walk_at "v"
  refine ⟨_, _, _, _, _, rfl, cp, fp, c, fc, t, tv, w, nw, kd, rfl, rfl, tu16, rfl, rfl, DLkb d5 P5 k5g hca, d16, hok, hfo, hokv, hfov, ggok, fun r hr => (g16 r hr).1, by omega, by omega, by omega, hsc, typed_scope htyv, hw, hnw, ⟨okd, by omega⟩, fine_notIn hok hfo (fun r hr => (g5 r hr).2) hni, fun H17 s17 => ?_⟩
  walk_at "v"
  have P17 := P16.same s17
  have k5h := k5g.then s17
  have k0h := k05.tr k5h
  have d17 := DLkb d5 P5 k5h hca
  obtain ⟨r0, c', ec⟩ : ∃ r0 c', c = r0 :: c' := by
    cases c with
    | nil => cases hfo
    | cons r0 c' => exact ⟨r0, c', rfl⟩
  refine w_mid (fun σ H' => ∃ (v9 v10 : Option V), σ = [some (.ref a), some (.ref p), some (.ref q), some (.int (m : Int)), some (.ref cp), some xt, some (.str (S w)), some u, some u13, v9, v10] ∧ Pot a H' ∧ Kb a H5 H') ?_ ?_
  · have hx0 : (gd c)[0]? = some (upR r0).d := by rw [ec]; rfl
    obtain ⟨rest0, er0⟩ := gw_d r0
    walk_at "v"
    refine l_ix (n := 0) d17 hx0 (fun y ty => ?_)
    walk_at "v"
    refine t_ixS (n := 0) (by rw [er0] at ty; exact ty) rfl ?_
    walk_at "v"
    by_cases hl : ∃ j, r0 = .lam j
    · obtain ⟨j, rfl⟩ := hl
      rw [show decide (gw (.lam j) = [108, 97, 109]) = true from (show decide (wLAM = [108, 97, 109]) = true by decide)]
      walk_at "v"
      refine l_ix (n := 0) d17 hx0 (fun y2 ty2 => ?_)
      walk_at "v"
      have ty2 : TD H17 y2 (.tuple [.str (S wLAM), j.d]) := ty2
      refine t_ix (n := 1) ty2 rfl (fun y3 ty3 => ?_)
      walk_at "v"
      refine ⟨_, _, rfl, a, 9, rfl, rfl, by omega, by omega, P17, fun v18 H18 hv18 P18 k18 => ?_⟩
      walk_at "v"
      have k0i := k0h.tr k18
      have gj := g5 (.lam j) (by rw [ec]; exact List.mem_cons_self)
      have gj2 : j.sz ≤ 53 := gj.2
      have gj1 : GK j := gj.1
      refine ⟨_, _, _, _, _, rfl, a, p, q, j, v18, ws, rfl, ty3.tm (Kb.pot_tm P17 k18), rfl, rfl, rfl, P18, hW.kb hP k0i hpa, hL.kb hP k0i hqa, gj1.1, gj2, by omega, fun fp2 H19 fc2 h19 d19 tf19 g19 l19 P19 k19 => ?_⟩
      have k5j := (k5h.tr k18).tr k19
      obtain ⟨tv2, hokv2, hfov2, htyv2⟩ := tf19.one
      have hnv2 := fo_nodes1 hokv2 hfov2
      have hdv2 := dep_nodes tv2
      rw [ec] at hok hfo
      obtain ⟨b, hokb, hfob, etb⟩ := lam_code hok hfo
      have ggb : ∀ r ∈ c', r.gok := fun r hr => ggok r (by rw [ec]; exact List.mem_cons_of_mem _ hr)
      have hlc' : c'.length + 1 ≤ 81 := by rw [ec] at hlc; exact hlc
      have gb := gok_of hokb hfob ggb
      have hnb := fo_nodes1 hokb hfob
      have hdb := dep_nodes b
      have edr : (gd c).drop 1 = gd c' := by rw [ec]; rfl
      walk_at "v"
      refine l_from (b := 1) (DLkb d5 P5 k5j hca) (fun l1 G1 hl1 z1 dl1 => ?_)
      rw [edr] at dl1
      walk_at "v"
      refine ⟨_, rfl, l1, c', b, rfl, dl1, hokb, hfob, by omega, fun xb G2 z2 tb => ?_⟩
      walk_at "v"
      refine ⟨_, rfl, fp2, fc2, tv2, rfl, (d19.same z1).same z2, hokv2, hfov2, by omega, fun xv G3 z3 tvv => ?_⟩
      walk_at "v"
      refine ⟨_, _, rfl, b, tv2, tb.tm (Tm.same z3), tvv, by omega, by omega, by omega, fun uu G4 z4 tuu => ?_⟩
      walk_at "v"
      have z14 := ((z1.tr z2).tr z3).tr z4
      have k5k := k5j.then z14
      refine l_from (b := 1) (DLkb d5 P5 k5k hca) (fun l5' G5 hl5 z5 dl5 => ?_)
      rw [edr] at dl5
      walk_at "v"
      refine ⟨_, _, rfl, l5', fp2, c', fc2, rfl, rfl, dl5, (d19.same z14).same z5, hokb, by rw [hfob]; rfl, by omega, by omega, ggb, fun ip G6 hip z6 dip => ?_⟩
      walk_at "v"
      obtain ⟨g1, g2⟩ := fo_sub1 (insC_ok hokv2 hfov2) hokb hfob
      have lin : (subC (insC fc2) c' [0]).length ≤ c'.length * 100 := len_subC (by omega) (fun l x => insC_len (by omega) (by omega)) c' [0]
      have scb : inScope b 1 = true := by rw [etb] at hsc; exact hsc
      have smb : smB b := smB_scope b 1 scb (by omega)
      have smv : smB tv2 := smB_scope tv2 0 (typed_scope htyv2) (by omega)
      have gv2 : tv2.gok := gok_of hokv2 hfov2 fun r hr => (g19 r hr).1
      refine ⟨_, _, rfl, ip, _, _, rfl, dip, g1, g2, by omega, fun _ => ⟨gok_sub (fun l x h => insL_gok gv2 h) b 0 gb, smB_sub 999 (fun l x hl hx => insL_sm smv hx) b 0 smb (by omega), by have := dep_sub (f := insL tv2) (fun l x => insL_dep) b 0; omega⟩, (tuu.tm (Tm.same z5)).tm (Tm.same z6), fun G7 z7 => ?_⟩
      walk_at "v"
      have z17 := ((z14.tr z5).tr z6).tr z7
      exact ⟨_, _, rfl, P19.same z17, k5j.then z17⟩
    · rw [show decide (gw r0 = [108, 97, 109]) = false from decide_eq_false (fun z => by
        cases r0 with
        | app => exact absurd (show wAPP = wLAM from z) (by decide)
        | lam j => exact hl ⟨j, rfl⟩
        | tip x => exact (gw_tip x).2 z)]
      walk_at "v"
      exact ⟨_, _, rfl, P17, k5h⟩
  rintro σ H18 ⟨v9, v10, rfl, P18, k5l⟩
  have k0l := k05.tr k5l
  have d18 := DLkb d5 P5 k5l hca
  walk_at "v"
  refine ⟨_, _, _, _, rfl, a, p, q, cp, ws, c, rfl, rfl, rfl, rfl, P18, hW.kb hP k0l hpa, hL.kb hP k0l hqa, d18, g5, by omega, fun fa H19 kvs fb hfa e19 fd19 ok19 P19 k19 => ?_⟩
  walk_at "v"
  have d19 := DLkb d18 P18 k19 hca
  refine ⟨_, _, rfl, cp, fa, c, t, kvs, 4, 11, fb, rfl, rfl, d19, hok, hfo, ggok, by omega, by omega, hsc, e19, fd19, by omega, ok19, fun H20 s20 => ?_⟩
  walk_at "v"
  have k0m := (k0l.tr k19).then s20
  exact ⟨_, _, _, _, rfl, a, p, q, cp, ws, c, t, rfl, rfl, rfl, rfl, P19.same s20, hW.kb hP k0m hpa, hL.kb hP k0m hqa, d19.same s20, hok, hfo, ggok, by omega, by omega, hsc, fun H21 P21 k21 => hQ H21 P21 (k0m.tr k21)⟩
end
end K01

namespace K01
open PySem PySem.Spec PyProof.Rows L2 SX K02
local macro_rules | `(tactic| walk_at "w1") => `(tactic| (first
  | with_reducible refine w_seq ?_ | with_reducible refine w_asgN ?_ | with_reducible refine w_c ?_
  | ((with_reducible refine' w_var ?wv ?_); (case wv => exact rfl))
  | with_reducible refine w_op ?_ | with_reducible refine w_un ?_ | with_reducible refine w_next ?_ | with_reducible refine w_brk ?_ | with_reducible refine w_cnt ?_
  | with_reducible refine w_ifS ?_ | with_reducible refine w_if ?_ | with_reducible refine w_test ?_ | with_reducible refine w_tB ?_ | with_reducible refine w_bl ?_ | with_reducible refine w_blI ?_
  | with_reducible refine w_and ?_ | with_reducible refine w_or ?_ | with_reducible refine w_not ?_ | with_reducible refine w_andV ?_ | with_reducible refine w_orV ?_ | with_reducible refine w_notV ?_
  | with_reducible refine w_nil ?_ | with_reducible refine w_cons ?_ | with_reducible refine w_cb ?_ | with_reducible refine w_call ?_ | with_reducible refine w_callS ?_ | with_reducible refine w_chain ?_
  | with_reducible refine w_tupN ?_ | with_reducible refine w_lstN ?_ | with_reducible refine w_sl ?_ | with_reducible refine w_noPart ?_ | with_reducible refine w_part ?_ | with_reducible refine w_partI ?_
  | with_reducible refine w_ret ?_ | with_reducible refine w_retN ?_ | with_reducible refine w_drop ?_ | with_reducible refine w_asg ?_ | with_reducible refine w_gSub ?_
  | ((with_reducible refine' w_aug ?wv ?_); (case wv => exact rfl)) | with_reducible refine w_ipI ?_
  | with_reducible refine w_addI ?_ | with_reducible refine w_subI ?_ | with_reducible refine w_ltI ?_ | with_reducible refine w_leI ?_ | with_reducible refine w_gtI ?_ | with_reducible refine w_geI ?_
  | with_reducible refine w_eqI ?_ | with_reducible refine w_neI ?_ | with_reducible refine w_eqT ?_ | with_reducible refine w_neT ?_ | with_reducible refine w_inS ?_ | with_reducible refine w_ninS ?_
  | with_reducible refine w_absI ?_ | with_reducible refine w_intI ?_ | with_reducible refine w_maxI ?_ | with_reducible refine w_minI ?_
  | with_reducible refine w_for ?_ | with_reducible refine w_iR1 ?_ | with_reducible refine w_iR2 ?_ | with_reducible refine w_iStr ?_ | with_reducible refine w_strI ?_ | with_reducible refine w_iList ?_ | with_reducible refine w_iTup ?_
  | with_reducible refine w_bm ?_ | with_reducible refine w_bm0 ?_ | with_reducible refine w_t ?_ | with_reducible refine w_f ?_ | with_reducible refine w_nt ?_ | with_reducible refine w_nx ?_ | with_reducible refine w_rt ?_ | with_reducible refine w_bk ?_ | with_reducible refine w_ct ?_ | with_reducible refine w_nf ?_ | with_reducible refine w_lc ?_ | with_reducible refine w_yes ?_ | with_reducible refine w_neg ?_ | with_reducible refine w_intB ?_ | with_reducible refine w_fld ?_ | with_reducible refine w_setf ?_ | with_reducible refine w_faug ?_ | with_reducible refine w_meth ?_ | with_reducible refine w_bmS ?_ | with_reducible refine w_start ?_ | with_reducible refine w_revL ?_ | with_reducible refine w_iR3 ?_))
local macro_rules | `(tactic| walk_at "w") => `(tactic| (repeat (first | walk_at "w1" | dsimp (config := { proj := false }) only [List.set_cons_zero, List.set_cons_succ])))
section
variable {w : World} {K : PySem.W.Frag} {mg : Str → Option Value} {base : Heap}
local macro_rules | `(tactic| walk_at "v1") => `(tactic| (first
  | with_reducible refine w_seq ?_ | with_reducible refine w_asgN ?_ | with_reducible refine w_c ?_
  | ((with_reducible refine' w_var ?wv ?_); (case wv => exact rfl))
  | with_reducible refine w_op ?_ | with_reducible refine w_un ?_ | with_reducible refine w_next ?_ | with_reducible refine w_brk ?_ | with_reducible refine w_cnt ?_
  | with_reducible refine w_ifS ?_ | with_reducible refine w_if ?_ | with_reducible refine w_test ?_ | with_reducible refine w_tB ?_ | with_reducible refine w_bl ?_ | with_reducible refine w_blI ?_
  | with_reducible refine w_and ?_ | with_reducible refine w_or ?_ | with_reducible refine w_not ?_ | with_reducible refine w_andV ?_ | with_reducible refine w_orV ?_ | with_reducible refine w_notV ?_
  | with_reducible refine w_nil ?_ | with_reducible refine w_cons ?_ | with_reducible refine w_cb ?_ | with_reducible refine w_call ?_ | with_reducible refine w_callS ?_ | with_reducible refine w_chain ?_
  | with_reducible refine w_sl ?_ | with_reducible refine w_noPart ?_ | with_reducible refine w_part ?_ | with_reducible refine w_partI ?_
  | with_reducible refine w_ret ?_ | with_reducible refine w_retN ?_ | with_reducible refine w_drop ?_ | with_reducible refine w_asg ?_ | with_reducible refine w_gSub ?_
  | ((with_reducible refine' w_aug ?wv ?_); (case wv => exact rfl)) | with_reducible refine w_ipI ?_
  | with_reducible refine w_addI ?_ | with_reducible refine w_subI ?_ | with_reducible refine w_ltI ?_ | with_reducible refine w_leI ?_ | with_reducible refine w_gtI ?_ | with_reducible refine w_geI ?_
  | with_reducible refine w_eqI ?_ | with_reducible refine w_neI ?_ | with_reducible refine w_eqT ?_ | with_reducible refine w_neT ?_ | with_reducible refine w_inS ?_ | with_reducible refine w_ninS ?_
  | with_reducible refine w_absI ?_ | with_reducible refine w_intI ?_ | with_reducible refine w_maxI ?_ | with_reducible refine w_minI ?_
  | with_reducible refine w_for ?_ | with_reducible refine w_iR1 ?_ | with_reducible refine w_iR2 ?_ | with_reducible refine w_iStr ?_ | with_reducible refine w_strI ?_ | with_reducible refine w_iList ?_ | with_reducible refine w_iTup ?_
  | with_reducible refine w_bm ?_ | with_reducible refine w_bm0 ?_ | with_reducible refine w_t ?_ | with_reducible refine w_f ?_ | with_reducible refine w_nt ?_ | with_reducible refine w_nx ?_ | with_reducible refine w_rt ?_ | with_reducible refine w_bk ?_ | with_reducible refine w_ct ?_ | with_reducible refine w_nf ?_ | with_reducible refine w_lc ?_ | with_reducible refine w_yes ?_ | with_reducible refine w_neg ?_ | with_reducible refine w_intB ?_ | with_reducible refine w_fld ?_ | with_reducible refine w_setf ?_ | with_reducible refine w_faug ?_ | with_reducible refine w_meth ?_ | with_reducible refine w_bmS ?_ | with_reducible refine w_start ?_ | with_reducible refine w_revL ?_ | with_reducible refine w_iR3 ?_))
local macro_rules | `(tactic| walk_at "v") => `(tactic| (repeat (first | walk_at "v1" | dsimp (config := { proj := false }) only [List.set_cons_zero, List.set_cons_succ])))
local macro_rules | `(tactic| walk_at "d") => `(tactic| (repeat (first | exact eva_nil | refine eva_cons ?_ ?_ | exact ev_str | exact ev_int | exact ev_neg | refine ev_tup ?_ | (refine ev_var rfl ?_; assumption))))


def sp6 (P : V → V → V → V → V → V → Hp → VK → XK → Prop) : Sp := fun vs H Q E => ∃ a b c d e f, vs = [a, b, c, d, e, f] ∧ P a b c d e f H Q E
theorem sp6_len {P} {vs H Q E} (h : sp6 P vs H Q E) : vs.length = 6 := by obtain ⟨_, _, _, _, _, _, rfl, _⟩ := h; rfl
theorem rg2 (n : Nat) (h : n ≤ 1000) : RgC 0 (n : Int) 2 ((n + 1) / 2) := by
  have e : Builtin.Range.rangeSize 0 (n : Int) 2 = (((n + 1) / 2 : Nat) : Int) := by
    unfold Builtin.Range.rangeSize
    simp only [show (2 : Int) > 0 by decide, if_true]
    split <;> omega
  refine ⟨by decide, by decide, ?_, e⟩
  have f : ∀ x : Int, 0 ≤ x → x < 10000 → Builtin.Range.rangeFitsLong x = true := fun x h1 h2 => by
    unfold Builtin.Range.rangeFitsLong
    rw [Bool.and_eq_true, decide_eq_true_eq, decide_eq_true_eq]
    omega
  unfold Builtin.Range.small
  rw [e, f 0 (by omega) (by omega), f (n : Int) (by omega) (by omega), f 2 (by omega) (by omega), f (((n + 1) / 2 : Nat) : Int) (by omega) (by omega), if_pos (show (2 : Int) > 0 by decide), f ((n : Int) + (2 - 1)) (by omega) (by omega)]
  simp
/-- a list of codes -/
def LL (H : Hp) (p : Addr) (cs : List (List G2)) : Prop := ∃ xs, H p = some (.lst xs) ∧ xs.length = cs.length ∧ ∀ (i : Nat) (c : List G2), cs[i]? = some c → ∃ r, xs[i]? = some (.ref r) ∧ DL H r (gd c) ∧ r ≠ p
section
variable {H H' : Hp} {p r : Addr} {cs : List (List G2)} {c : List G2} {Q : VK}
theorem LL.same (h : LL H p cs) (s : Same H H') : LL H' p cs := let ⟨xs, e, l, f⟩ := h; ⟨xs, s _ _ e, l, fun i c z => let ⟨r, a, b, n⟩ := f i c z; ⟨r, a, b.same s, n⟩⟩
theorem LL.len (h : LL H p cs) (k : Q (.int (cs.length : Int)) H) : rLenQ K [.ref p] H Q := by
  obtain ⟨xs, e, l, _⟩ := h
  rw [← l] at k
  exact ⟨p, xs, rfl, .inl (SqL.of e), k⟩
theorem LL.ix (h : LL H p cs) (s : Same H H') {i : Nat} (e : cs[i]? = some c) (k : ∀ r, DL H r (gd c) → Q (.ref r) H') : rIxL K (.ref p) (.int (i : Int)) H' Q := by
  obtain ⟨xs, e', l, f⟩ := h
  obtain ⟨r, a, b, _⟩ := f i c e
  exact w_ixL (SqL.of (s _ _ e')) a (k r b)
theorem LL.nil_ (e : H p = some (.lst [])) : LL H p [] := ⟨[], e, rfl, fun i c z => by cases z⟩
theorem LL.snoc {xs : List V} (h : LL H p cs) (e : H p = some (.lst xs)) (d : DL H r (gd c)) (n : r ≠ p) : LL (upd H p (.lst (xs ++ [.ref r]))) p (cs ++ [c]) := by
  obtain ⟨ys, e', l, f⟩ := h
  rw [e] at e'
  cases e'
  have ex : Ex p H (upd H p (.lst (xs ++ [.ref r]))) := fun b hb => upd_ne hb
  refine ⟨_, upd_same, by rw [List.length_append, List.length_append, l]; rfl, fun i c' z => ?_⟩
  by_cases hi : i < cs.length
  · rw [List.getElem?_append_left hi] at z
    obtain ⟨r', a, b, m⟩ := f i c' z
    exact ⟨r', by rw [List.getElem?_append_left (by omega)]; exact a, b.ex ex m e, m⟩
  · rw [List.getElem?_append_right (by omega)] at z
    have hz : i - cs.length = 0 := by
      have := (List.getElem?_eq_some_iff.mp z).1
      have : i - cs.length < 1 := this
      omega
    rw [hz] at z
    cases z
    exact ⟨r, by rw [List.getElem?_append_right (by omega), show i - xs.length = 0 by omega]; rfl, d.ex ex n e, n⟩
theorem LL.app (h : LL H p cs) (d : DL H r (gd c)) (n : r ≠ p) (hl : cs.length ≤ 1000) (k : ∀ H', LL H' p (cs ++ [c]) → Ex p H H' → Q .non H') : rAppend (.ref p) [.ref r] H Q := by
  obtain ⟨xs, e, l, f⟩ := h
  refine ⟨p, xs, _, rfl, rfl, e, szl (show xs.length + 1 ≤ 100000 by omega), k _ (LL.snoc ⟨xs, e, l, f⟩ e d n) fun b hb => upd_ne hb⟩
theorem LL.ty {F : Prop} (h : LL H p cs) (k : F) : tyV K "list" (.ref p) H ∧ F := let ⟨_, e, _⟩ := h; n_lTy e k
end

theorem LL.set_ {H : Hp} {p r : Addr} {cs : List (List G2)} {c : List G2} {xs : List V} {k : Nat} (h : LL H p cs) (e : H p = some (.lst xs)) (d : DL H r (gd c)) (n : r ≠ p) : LL (upd H p (.lst (xs.set k (.ref r)))) p (cs.set k c) := by
  obtain ⟨ys, e', l, f⟩ := h
  rw [e] at e'
  cases e'
  have ex : Ex p H (upd H p (.lst (xs.set k (.ref r)))) := fun b hb => upd_ne hb
  refine ⟨_, upd_same, by rw [List.length_set, List.length_set, l], fun i c' z => ?_⟩
  by_cases hi : k = i
  · subst hi
    have hlt : k < cs.length := by have := (List.getElem?_eq_some_iff.mp z).1; rw [List.length_set] at this; exact this
    rw [List.getElem?_set_self hlt] at z
    cases z
    exact ⟨r, by rw [List.getElem?_set_self (by omega)], d.ex ex n e, n⟩
  · rw [List.getElem?_set_ne hi] at z
    obtain ⟨r', a, b, m⟩ := f i c' z
    exact ⟨r', by rw [List.getElem?_set_ne hi]; exact a, b.ex ex m e, m⟩
def jn (w : List Nat) (b : Kd) (c1 c2 : List G2) : List G2 := [.app, .app, .tip (.var w (.to b (.to b b)))] ++ c1 ++ c2
def JJ (w : List Nat) (b : Kd) : List (List G2) → List (List G2)
  | c1 :: c2 :: cs => jn w b c1 c2 :: JJ w b cs
  | cs => cs
def wt (cs : List (List G2)) : Nat := (cs.map fun c => c.length + 3).sum

/-- a code of one tree of the base kind, at most d deep -/
def Wo (b : Kd) (ws : List (List Nat)) (d : Nat) (c : List G2) : Prop := ∃ t, fok c ∧ fo c = [t] ∧ (∀ ar, typed t ar = some b) ∧ t.dep ≤ d ∧ ∀ r ∈ c, r.gok ∧ fine ws r
def CsOk (b : Kd) (ws : List (List Nat)) (d : Nat) (cs : List (List G2)) : Prop := ∀ c ∈ cs, Wo b ws d c
section
variable {w : List Nat} {b : Kd} {ws : List (List Nat)}
theorem typed_app2 {f x : Gt} {ar : List Kd} {k y : Kd} (h1 : typed f ar = some (.to k y)) (h2 : typed x ar = some k) : typed (.app f x) ar = some y := by
  unfold typed
  rw [h1, h2]; simp
theorem typed_lam2 {f : Gt} {ar : List Kd} {k y : Kd} (h1 : typed f (k :: ar) = some y) : typed (.lam k f) ar = some (.to k y) := by
  unfold typed
  rw [h1]
theorem Wo.mono {d e : Nat} {c : List G2} (h : Wo b ws d c) (z : d ≤ e) : Wo b ws e c := let ⟨t, a1, a2, a3, a4, a5⟩ := h; ⟨t, a1, a2, a3, Nat.le_trans a4 z, a5⟩
theorem Wo.leafV (hw : isName w = true) (hm : w ∈ ws) (hb : GK b) (hs : b.sz ≤ 1) : Wo b ws 1 [.tip (.var w b)] :=
  ⟨.tip (.var w b), (one_tip _).1, (one_tip _).2, fun ar => rfl, Nat.le_refl _, fun r hr => by rw [List.mem_singleton.mp hr]; exact ⟨⟨hw, hb⟩, by show b.sz ≤ 53; omega, hm⟩⟩
theorem Wo.leafC (hw : isName w = true) (hb : GK b) (hs : b.sz ≤ 1) : Wo b ws 1 [.tip (.cst w b)] :=
  ⟨.tip (.cst w b), (one_tip _).1, (one_tip _).2, fun ar => rfl, Nat.le_refl _, fun r hr => by rw [List.mem_singleton.mp hr]; exact ⟨⟨.inl hw, hb⟩, by show b.sz ≤ 53; omega⟩⟩
theorem jn_len (c1 c2 : List G2) : (jn w b c1 c2).length = c1.length + c2.length + 3 := by
  unfold jn
  rw [List.length_append, List.length_append]
  show 3 + c1.length + c2.length = _
  omega
theorem JJ_wt : ∀ cs, wt (JJ w b cs) = wt cs
  | [] => rfl
  | [c] => rfl
  | c1 :: c2 :: cs => by
    have ih := JJ_wt cs
    show (jn w b c1 c2).length + 3 + wt (JJ w b cs) = c1.length + 3 + (c2.length + 3 + wt cs)
    rw [jn_len, ih]; omega
theorem JJ_len : ∀ cs, (JJ w b cs).length = (cs.length + 1) / 2
  | [] => by simp [JJ]
  | [c] => by simp [JJ]
  | c1 :: c2 :: cs => by
    have ih := JJ_len cs
    show (JJ w b cs).length + 1 = (cs.length + 1 + 1 + 1) / 2
    omega
theorem JJ_ok {d : Nat} (hw : isName w = true) (hm : w ∈ ws) (hb : b.ok) (hs : b.sz ≤ 1) : ∀ {cs}, CsOk b ws d cs → CsOk b ws (d + 2) (JJ w b cs)
  | [], h => fun c hc => (h c hc).mono (by omega)
  | [c], h => fun c hc => (h c hc).mono (by omega)
  | c1 :: c2 :: cs, h => fun c hc => by
    rcases List.mem_cons.mp hc with rfl | hc
    · obtain ⟨t1, a1, a2, a3, a4, a5⟩ := h c1 (by simp)
      obtain ⟨t2, b1, b2, b3, b4, b5⟩ := h c2 (by simp)
      have f12 : fo (c1 ++ c2) = [t1, t2] := by rw [fo_append a1, a2, b2]; rfl
      have k12 := fok_append a1 b1
      have e : jn w b c1 c2 = .app :: .app :: .tip (.var w (.to b (.to b b))) :: (c1 ++ c2) := by unfold jn; simp
      refine ⟨.app (.app (.tip (.var w (.to b (.to b b)))) t1) t2, ?_, ?_, fun ar => typed_app2 (typed_app2 rfl (a3 ar)) (b3 ar), ?_, fun r hr => ?_⟩
      · rw [e]
        exact (Vc.app (n := 0) (Vc.app (n := 1) (Vc.tip (n := 2) ⟨k12, by rw [f12]; rfl⟩))).1
      · rw [e]
        show push1 .app (push1 .app (push1 (.tip _) (fo (c1 ++ c2)))) = _
        rw [f12]; rfl
      · show max (max 1 t1.dep + 1) t2.dep + 1 ≤ d + 2
        have := t1.dep_pos
        omega
      · rw [e] at hr
        rcases List.mem_cons.mp hr with rfl | hr
        · exact ⟨trivial, trivial⟩
        rcases List.mem_cons.mp hr with rfl | hr
        · exact ⟨trivial, trivial⟩
        rcases List.mem_cons.mp hr with rfl | hr
        · exact ⟨⟨hw, ⟨hb, hb, hb⟩, by show b.sz + (b.sz + b.sz + 1) + 1 ≤ 100; omega⟩, by show b.sz + (b.sz + b.sz + 1) + 1 ≤ 53; omega, hm⟩
        rcases List.mem_append.mp hr with hr | hr
        · exact a5 r hr
        · exact b5 r hr
    · exact JJ_ok hw hm hb hs (fun c hc => h c (by simp [hc])) c hc
theorem Wo.lamC {d : Nat} {c : List G2} {pl : List Nat} (h : Wo b ws d c) (hd : 1 ≤ d) (hp : isName pl = true) (hb : GK b) (hs : b.sz ≤ 1) : Wo b ws (d + 2) ([.app, .lam b] ++ c ++ [.tip (.cst pl b)]) := by
  obtain ⟨t, a1, a2, a3, a4, a5⟩ := h
  obtain ⟨o1, o2⟩ := one_tip (.cst pl b)
  have f12 : fo (c ++ [.tip (.cst pl b)]) = [t, .tip (.cst pl b)] := by rw [fo_append a1, a2, o2]; rfl
  have k12 := fok_append a1 o1
  have e : [.app, .lam b] ++ c ++ [.tip (.cst pl b)] = .app :: .lam b :: (c ++ [.tip (.cst pl b)]) := by simp
  rw [e]
  refine ⟨.app (.lam b t) (.tip (.cst pl b)), (Vc.app (n := 0) (Vc.lam (n := 1) ⟨k12, by rw [f12]; rfl⟩)).1, ?_, fun ar => typed_app2 (typed_lam2 (a3 _)) rfl, ?_, fun r hr => ?_⟩
  · show push1 .app (push1 (.lam b) (fo (c ++ [.tip (.cst pl b)]))) = _
    rw [f12]; rfl
  · show max (t.dep + 1) 1 + 1 ≤ d + 2
    omega
  · rcases List.mem_cons.mp hr with rfl | hr
    · exact ⟨trivial, trivial⟩
    rcases List.mem_cons.mp hr with rfl | hr
    · exact ⟨hb, by show b.sz ≤ 53; omega⟩
    rcases List.mem_append.mp hr with hr | hr
    · exact a5 r hr
    · rw [List.mem_singleton.mp hr]; exact ⟨⟨.inl hp, hb⟩, by show b.sz ≤ 53; omega⟩
theorem Wo.hopC {d : Nat} {c : List G2} {pl : List Nat} (h : Wo b ws d c) (hp : isName pl = true) (hb : GK b) (hs : b.sz ≤ 1) : Wo b ws (d + 1) ([.app, .tip (.cst pl (.to b b))] ++ c) := by
  obtain ⟨t, a1, a2, a3, a4, a5⟩ := h
  refine ⟨.app (.tip (.cst pl (.to b b))) t, (Vc.app (n := 0) (Vc.tip (n := 1) ⟨a1, by rw [a2]; rfl⟩)).1, ?_, fun ar => typed_app2 rfl (a3 ar), ?_, fun r hr => ?_⟩
  · show push1 .app (push1 (.tip _) (fo c)) = _
    rw [a2]; rfl
  · show max 1 t.dep + 1 ≤ d + 1
    have := t.dep_pos
    omega
  · rcases List.mem_cons.mp hr with rfl | hr
    · exact ⟨trivial, trivial⟩
    rcases List.mem_cons.mp hr with rfl | hr
    · exact ⟨⟨.inl hp, ⟨hb.1, hb.1⟩, by show b.sz + b.sz + 1 ≤ 100; omega⟩, by show b.sz + b.sz + 1 ≤ 53; omega⟩
    · exact a5 r hr
theorem wt_mem : ∀ {cs : List (List G2)} {c : List G2}, c ∈ cs → c.length + 3 ≤ wt cs
  | d :: cs, c, h => by
    show _ ≤ d.length + 3 + wt cs
    rcases List.mem_cons.mp h with rfl | h
    · omega
    · have := wt_mem h
      omega
theorem wt_one {c : List G2} : wt [c] = c.length + 3 := by simp [wt]
theorem drop_two {α : Type} {l : List α} {k : Nat} (h : k + 1 < l.length) : ∃ c1 c2, l[k]? = some c1 ∧ l[k + 1]? = some c2 ∧ l.drop k = c1 :: c2 :: l.drop (k + 2) := by
  refine ⟨l[k], l[k + 1], List.getElem?_eq_getElem (by omega), List.getElem?_eq_getElem h, ?_⟩
  rw [List.drop_eq_getElem_cons (by omega), List.drop_eq_getElem_cons h]
theorem drop_one {α : Type} {l : List α} {k : Nat} (h : k + 1 = l.length) : ∃ c1, l[k]? = some c1 ∧ l.drop k = [c1] := by
  refine ⟨l[k], List.getElem?_eq_getElem (by omega), ?_⟩
  rw [List.drop_eq_getElem_cons (by omega), List.drop_eq_nil_of_le (by omega)]
end
theorem wt_ones {cs : List (List G2)} (h : ∀ c ∈ cs, c.length = 1) : wt cs = 4 * cs.length := by
  induction cs with
  | nil => rfl
  | cons c cs ih =>
    have h1 := h c List.mem_cons_self
    have h2 := ih fun d hd => h d (List.mem_cons_of_mem _ hd)
    show c.length + 3 + wt cs = 4 * (cs.length + 1)
    rw [h1, h2]; omega
def sp_law_wide : Sp := sp6 fun x y z u v s H Q _ => ∃ (a : Addr) (n m : Nat) (w pl w0 : List Nat) (ws : List (List Nat)), x = .ref a ∧ y = .int (n : Int) ∧ z = .int (m : Int) ∧ u = .str (S w) ∧ v = .str (S pl) ∧ TD H s (Kd.nm w0).d ∧ 3 ≤ n ∧ n ≤ 399 ∧ m ≤ 9 ∧ isName w = true ∧ w ∈ ws ∧ isName pl = true ∧ isName w0 = true ∧ Pot a H ∧
  ∀ r H' (c : List G2), DL H' r (gd c) → Wo (.nm w0) ws 20 c → c.length = n → Pot a H' → Kb a H H' → Q (.ref r) H'
theorem ok_law_wide (T : Txt w K mg) {fd : FuncData} (F : Fn_law_wide K fd) (hm : mg "_law_wide" = some (.ref (He.ga K "_law_wide"))) (c_law_take : CalX P w K mg base CX0 1 "_law_take" sp_law_take) : CalX P w K mg base CX0 2 "_law_wide" sp_law_wide := by
  refine calx0 (k := 1) F hm sc_law_wide (b_law_wide F) (fun _ _ _ _ h => sp6_len h) (fun cdv A outer s H vs Q E hr h => ?_)
  obtain ⟨x0, x1, x2, x3, x4, x5, rfl, h⟩ := h
  refine ⟨_, (pss_cons (ps_set (i := 6) sc_law_wide.nd rfl (Or.inl rfl) (pe_op op_divI (pe_op op_addI (pv 1) pe_int) pe_int))
    (pss_cons (ps_set (i := 7) sc_law_wide.nd rfl (Or.inl rfl) (pe_op op_subI (pv 1) (pe_op op_subI (pe_op op_mulI pe_int (pv 6)) pe_int)))
    (Evl.pss_cut (ps_if (pt_cmpR op_eq (pv 7) pe_int (nomark _))
    (pss_cons (ps_set (i := 6) sc_law_wide.nd rfl (Or.inl rfl) (pe_op op_subI (pv 6) pe_int))
    (pss_one (ps_set (i := 7) sc_law_wide.nd rfl (Or.inl rfl) pe_int)))
    pss_nil)
    (pss_cons (ps_set (i := 8) sc_law_wide.nd rfl (Or.inl rfl) (pe_cx c_law_take hr (by decide) rfl pass0 (pa_cons (pv 0) (pa_cons (pv 6) pa_nil))))
    (pss_cons (ps_setLc (i := 10) (own := [("k", 9)]) (g := gName 9) (tt := tYes) (by rfl) sc_law_wide.nd rfl rfl (sw_true rfl rfl rfl (by decide +kernel)) (pi_range1 (by rfl) T.f_range (pa_cons (pv 6) pa_nil)) (blkOk_by (own := [("k", 9)]) (N := ["pot", "count", "marked", "word", "plain", "base", "many", "rest", "offset", "k", "line", "pair", "turn", "joined", "code"]) (sc := defScope s_law_wide) (by decide +kernel)) (fun _ _ _ _ _ => pg_name (i := 9) sc_law_wide.nd rfl (Or.inl rfl)) (fun _ _ _ _ _ => pts_nil) (fun _ _ _ _ _ => (pe_lst (pa_cons (pe_tup (pa_cons pe_str (pa_cons (pv 4) (pa_cons (pv 5) pa_nil)))) pa_nil))))
    (pss_cons (ps_for PassesOwn.never rfl (pi_range1 (by rfl) T.f_range (pa_cons (pv 2) pa_nil)) (pg_name (i := 9) sc_law_wide.nd rfl (Or.inl rfl))
    (pss_one (ps_asg (pe_lst (pa_cons (pe_tup (pa_cons pe_str (pa_cons (pv 3) (pa_cons (pv 5) pa_nil)))) pa_nil)) (pg_sub (pv 10) (pe_op op_modI (pe_callTy call_intI (by rfl) T.f_int (by decide +kernel) (pa_cons (pe_op op_addI (pv 8) (pv 9)) pa_nil)) (pv 6)) set_list))))
    (pss_cons (ps_set (i := 11) sc_law_wide.nd rfl (Or.inl rfl) (pe_tup (pa_cons pe_str (pa_cons (pv 3) (pa_cons (pe_tup (pa_cons pe_str (pa_cons (pv 5) (pa_cons (pe_tup (pa_cons pe_str (pa_cons (pv 5) (pa_cons (pv 5) pa_nil)))) pa_nil)))) pa_nil)))))
    (pss_cons (ps_for PassesOwn.never rfl (pi_range1 (by rfl) T.f_range (pa_cons pe_int pa_nil)) (pg_name (i := 12) sc_law_wide.nd rfl (Or.inl rfl))
    (pss_cons (ps_set (i := 13) sc_law_wide.nd rfl (Or.inl rfl) (pe_lst pa_nil))
    (pss_cons (ps_for PassesOwn.never rfl (pi_range3 (by rfl) T.f_range (pa_cons pe_int (pa_cons (pe_callB call_lenQ (by rfl) T.f_len PySem.boot_len (pa_cons (pv 10) pa_nil)) (pa_cons pe_int pa_nil)))) (pg_name (i := 9) sc_law_wide.nd rfl (Or.inl rfl))
    (pss_one (ps_if (pt_cmpR op_ltI (pe_op op_addI (pv 9) pe_int) (pe_callB call_lenQ (by rfl) T.f_len PySem.boot_len (pa_cons (pv 10) pa_nil)) (nomark _))
    (pss_one (ps_expr (pe_bm PySem.F.plainAttrs_list PySem.F.slot_list_append PySem.F.type_list_append mt_append (pv 13) (pa_cons (pe_op op_cat (pe_op op_cat (pe_lst (pa_cons (pe_tup (pa_cons pe_str pa_nil)) (pa_cons (pe_tup (pa_cons pe_str pa_nil)) (pa_cons (pv 11) pa_nil)))) (pe_ix ix_list (pv 10) (pv 9) (fun _ _ => rfl))) (pe_ix ix_list (pv 10) (pe_op op_addI (pv 9) pe_int) (fun _ _ => rfl))) pa_nil))))
    (pss_one (ps_expr (pe_bm PySem.F.plainAttrs_list PySem.F.slot_list_append PySem.F.type_list_append mt_append (pv 13) (pa_cons (pe_ix ix_list (pv 10) (pv 9) (fun _ _ => rfl)) pa_nil)))))))
    (pss_one (ps_set (i := 10) sc_law_wide.nd rfl (Or.inl rfl) (pv 13))))))
    (pss_cons (ps_set (i := 14) sc_law_wide.nd rfl (Or.inl rfl) (pe_ix ix_list (pv 10) pe_int (fun _ _ => rfl)))
    (Evl.pss_cut (ps_if (pt_cmpR op_gtI (pv 7) pe_int (nomark _))
    (pss_cons (ps_set (i := 14) sc_law_wide.nd rfl (Or.inl rfl) (pe_op op_cat (pe_op op_cat (pe_lst (pa_cons (pe_tup (pa_cons pe_str pa_nil)) (pa_cons (pe_tup (pa_cons pe_str (pa_cons (pv 5) pa_nil))) pa_nil))) (pv 14)) (pe_lst (pa_cons (pe_tup (pa_cons pe_str (pa_cons (pv 4) (pa_cons (pv 5) pa_nil)))) pa_nil))))
    (pss_one (ps_set (i := 7) sc_law_wide.nd rfl (Or.inl rfl) (pe_op op_subI (pv 7) pe_int))))
    pss_nil)
    (pss_cons (ps_if (pt_cmpR op_eq (pv 7) pe_int (nomark _))
    (pss_one (ps_set (i := 14) sc_law_wide.nd rfl (Or.inl rfl) (pe_op op_cat (pe_lst (pa_cons (pe_tup (pa_cons pe_str pa_nil)) (pa_cons (pe_tup (pa_cons pe_str (pa_cons (pv 4) (pa_cons (pe_tup (pa_cons pe_str (pa_cons (pv 5) (pa_cons (pv 5) pa_nil)))) pa_nil)))) pa_nil))) (pv 14))))
    pss_nil)
    (pss_one (ps_ret (pv 14)))))))))))))), ?_⟩
  rw [show start ["pot", "count", "marked", "word", "plain", "base", "many", "rest", "offset", "k", "line", "pair", "turn", "joined", "code"] [x0, x1, x2, x3, x4, x5] = [some x0, some x1, some x2, some x3, some x4, some x5, none, none, none, none, none, none, none, none, none] from rfl]
  have ec0 : Str.ofString "var" = S [118,97,114] := S_ofs (by decide +kernel)
  have ec1 : Str.ofString "to" = S [116,111] := S_ofs (by decide +kernel)
  have ec2 : Str.ofString "const" = S [99,111,110,115,116] := S_ofs (by decide +kernel)
  have ec3 : Str.ofString "app" = S [97,112,112] := S_ofs (by decide +kernel)
  have ec4 : Str.ofString "lam" = S [108,97,109] := S_ofs (by decide +kernel)
  rw [ec0, ec1, ec2, ec3, ec4]
  obtain ⟨a, n, m, w, pl, w0, ws, rfl, rfl, rfl, rfl, rfl, hb, hn1, hn2, hm, hw, hww, hpl, hw0, hP, hQ⟩ := h
  obtain ⟨b, hbe⟩ : ∃ b : Kd, b = .nm w0 := ⟨_, rfl⟩
  have okb : b.ok := by rw [hbe]; exact .inl hw0
  have szb : b.sz ≤ 1 := by rw [hbe]; exact Nat.le_refl _
  have gb : GK b := ⟨okb, by omega⟩
  rw [← hbe] at hb hQ
  try dsimp only [cxOf]
  walk_at "v"
  refine w_divI ⟨by omega, by omega⟩ ?_
  walk_at "v"
  refine w_mulI (.inl (by omega)) ?_
  walk_at "v"
  obtain ⟨M, R, hM, hR, hMR⟩ : ∃ (M : Nat) (R : Int), ((n : Int) + 3) / 4 = (M : Int) ∧ (n : Int) - (4 * (((n : Int) + 3) / 4) - 3) = R ∧ (1 ≤ M ∧ M ≤ 100 ∧ 4 * (M : Int) - 3 + R = n ∧ 0 ≤ R ∧ R ≤ 3) := ⟨(n + 3) / 4, _, by omega, rfl, by omega, by omega, by omega, by omega, by omega⟩
  rw [hM] at hR ⊢
  rw [hR]
  refine w_mid (fun σ H' => H' = H ∧ ∃ (M : Nat) (R : Int), 1 ≤ M ∧ M ≤ 100 ∧ 4 * (M : Int) - 3 + R = n ∧ (R = 0 ∨ R = 2 ∨ R = 3 ∨ R = 5) ∧ σ = [some (.ref a), some (.int (n : Int)), some (.int (m : Int)), some (.str (S w)), some (.str (S pl)), some x5, some (.int (M : Int)), some (.int R), none, none, none, none, none, none, none]) ?_ ?_
  · walk_at "v"
    refine w_dec (fun h1 => ?_) (fun h1 => ⟨rfl, M, R, by omega, by omega, by omega, by omega, rfl⟩)
    walk_at "v"
    exact ⟨rfl, M - 1, 5, by omega, by omega, by omega, by omega, by rw [show ((M : Int) - 1) = ((M - 1 : Nat) : Int) by omega]⟩
  clear hM hR hMR M R
  rintro σ H' ⟨rfl, M, R, hM1, hM2, hMR, hR4, rfl⟩
  walk_at "v"
  refine ⟨_, _, rfl, a, M, rfl, rfl, by omega, by omega, hP, fun v2 H2 hv2 P2 k2 => ?_⟩
  walk_at "v"
  refine w_rg1 (by omega) (by omega) ?_
  rw [show ((M : Int)).toNat = M from Int.toNat_natCast _]
  have hb2 := hb.tm (Kb.pot_tm hP k2)
  intro D hD
  have hDa : D ≠ a := P2.ne hD
  refine lc_range (fun i H1 => Same H2 H1 ∧ ∃ cs : List (List G2), LL H1 D cs ∧ cs.length = i ∧ CsOk b ws 1 cs ∧ ∀ c ∈ cs, c.length = 1) ⟨same_upd hD, [], LL.nil_ upd_same, rfl, (fun c hc => absurd hc List.not_mem_nil), fun c hc => absurd hc List.not_mem_nil⟩ ?_ ?_
  · rintro i H1 hi ⟨sm, cs, ll, hcl, hok, hone⟩
    have hi : i < M := hi
    dsimp only [gName]
    refine ⟨rfl, ?_⟩
    walk_at "v"
    refine w_lstN ?_
    walk_at "v"
    refine w_tupN ?_
    walk_at "v"
    refine t_new (ds := [.str (S wCONST), .str (S pl), b.d]) (.cons (.str _) (.cons (.str _) (.cons (hb2.tm (Tm.same sm)) .nil))) (fun p4 H4 hp4 s4 t4 => ?_)
    walk_at "v"
    refine l_new (ds := gd [.tip (.cst pl b)]) (.cons t4 .nil) (fun p5 H5 hp5 s5 d5 => ?_)
    have ll5 := (ll.same s4).same s5
    have ll5' := ll5
    obtain ⟨xs, e, l, _⟩ := ll5'
    have hne : p5 ≠ D := fun z => by
      obtain ⟨_, e', _⟩ := ll.same s4
      rw [z] at hp5
      rw [hp5] at e'; cases e'
    have ex : Ex D H5 (upd H5 D (.lst (xs ++ [.ref p5]))) := fun b hb => upd_ne hb
    refine ⟨_, e, szl (show xs.length + 1 ≤ 100000 by omega), ⟨((sm.tr s4).tr s5).ex hD ex, cs ++ [[.tip (.cst pl b)]], LL.snoc ll5 e d5 hne, by rw [List.length_append, hcl]; rfl, fun c hc => ?_, fun c hc => ?_⟩⟩
    · rcases List.mem_append.mp hc with hc | hc
      · exact hok c hc
      · rw [List.mem_singleton.mp hc]; exact Wo.leafC hpl gb szb
    · rcases List.mem_append.mp hc with hc | hc
      · exact hone c hc
      · rw [List.mem_singleton.mp hc]; rfl
  rintro H1 ⟨sm, cs0, ll0, hcl0, hok0, hone0⟩
  walk_at "v"
  refine w_rg1 (by omega) (by omega) ?_
  rw [show ((m : Int)).toNat = m from Int.toNat_natCast _]
  refine for_range (fun i σ G' => Same H2 G' ∧ ∃ (cs : List (List G2)) (v9 : Option V), σ = [some (.ref a), some (.int (n : Int)), some (.int (m : Int)), some (.str (S w)), some (.str (S pl)), some x5, some (.int (M : Int)), some (.int R), some (.int (v2 : Int)), v9, some (.ref D), none, none, none, none] ∧ LL G' D cs ∧ cs.length = M ∧ CsOk b ws 1 cs ∧ ∀ c ∈ cs, c.length = 1)
    ⟨sm, cs0, _, rfl, ll0, hcl0, hok0, hone0⟩ ?_ ?_
  · rintro i σ G hi ⟨sg, cs, v9, rfl, ll, hcl, hok, hone⟩
    have hi : i < m := hi
    dsimp only [gName]
    walk_at "v"
    have hbG := hb2.tm (Tm.same sg)
    have hwG := TD.str (H := G) (S w)
    refine ev_lst (ds := gd [.tip (.var w b)]) (eva_cons (by show Ev _ _ _ (.tuple [.str (S wVAR), .str (S w), b.d]); walk_at "d") eva_nil) (fun l3 G3 h3 s3 d3 => ?_)
    walk_at "v"
    refine w_modI (by omega) ?_
    rw [show ((v2 : Int) + (0 + (i : Int))) % (M : Int) = (((v2 + i) % M : Nat) : Int) by rw [Int.zero_add, ← Int.natCast_add, ← Int.natCast_emod]]
    have ll3 := ll.same s3
    have ll3' := ll3
    obtain ⟨xs, e, l, _⟩ := ll3'
    have hlt : (v2 + i) % M < M := Nat.mod_lt _ (by omega)
    refine w_setL e (by omega) ?_
    have hne : l3 ≠ D := fun z => by
      obtain ⟨_, e', _⟩ := ll
      rw [z] at h3
      rw [h3] at e'; cases e'
    have ex : Ex D G3 (upd G3 D (.lst (xs.set ((v2 + i) % M) (.ref l3)))) := fun b hb => upd_ne hb
    refine ⟨(sg.tr s3).ex hD ex, cs.set ((v2 + i) % M) [.tip (.var w b)], _, rfl, LL.set_ ll3 e d3 hne, by rw [List.length_set]; exact hcl, fun c hc => ?_, fun c hc => ?_⟩
    · rcases List.mem_or_eq_of_mem_set hc with hc | rfl
      · exact hok c hc
      · exact Wo.leafV hw hww gb szb
    · rcases List.mem_or_eq_of_mem_set hc with hc | rfl
      · exact hone c hc
      · rfl
  rintro σ G0 ⟨sg0, cs, v9, rfl, ll, hcl, hok, hone⟩
  have hwt : wt cs = 4 * M := by rw [wt_ones hone, hcl]
  walk_at "v"
  have hbG0 := hb2.tm (Tm.same sg0)
  have hwG0 := TD.str (H := G0) (S w)
  refine ev_go (d := (upR (.tip (.var w (.to b (.to b b))))).d) (by show Ev _ _ _ (.tuple [.str (S wVAR), .str (S w), .tuple [.str (S wTO), b.d, .tuple [.str (S wTO), b.d, b.d]]]); walk_at "d") (fun xp G s26 tp => ?_)
  have llG := ll.same s26
  have hbG := hbG0.tm (Tm.same s26)
  have s2G := sg0.tr s26
  have PG := P2.same s2G
  have kG : Kb a H' G := k2.then s2G
  have hH : ∀ {r : Addr}, G r = none → H' r = none := fun {r} z => fresh_kb PG kG z
  walk_at "v"
  refine w_rg1 (by omega) (by omega) ?_
  refine for_range (fun i σ G' => Same G G' ∧ ∃ (line : Addr) (cs : List (List G2)) (u9 u12 u13 u14 : Option V), σ = [some (.ref a), some (.int (n : Int)), some (.int (m : Int)), some (.str (S w)), some (.str (S pl)), some x5, some (.int (M : Int)), some (.int R), some (.int (v2 : Int)), u9, some (.ref line), some xp, u12, u13, u14] ∧ LL G' line cs ∧ H' line = none ∧ (∀ c ∈ cs, True) ∧ CsOk b ws (1 + 2 * i) cs ∧ wt cs = 4 * M ∧ 1 ≤ cs.length ∧ cs.length ≤ 2 ^ (7 - i))
    ⟨Same.refl' _, D, cs, _, _, _, _, rfl, llG, fresh_kb P2 k2 hD, (fun _ _ => trivial), hok, hwt, by omega, by show cs.length ≤ 128; omega⟩ ?_ ?_
  · rintro i σ G1 hi ⟨sG, line, cs, u9, u12, u13, u14, rfl, ll, hln, _, hok, hwt, hl1, hl2⟩
    have hi : i < 7 := hi
    dsimp only [gName]
    walk_at "v"
    refine w_lstN ?_
    walk_at "v"
    refine n_L (fun j Hj hj sj ej => ?_)
    walk_at "v"
    refine (ll.same sj).len ?_
    walk_at "v"
    have hcl3 : cs.length ≤ 128 := Nat.le_trans hl2 (show 2 ^ (7 - i) ≤ 2 ^ 7 from Nat.pow_le_pow_right (by omega) (by omega))
    have hjH : H' j = none := hH (sG.fresh hj)
    refine ⟨_, _, _, _, rfl, rg2 _ (by omega), ?_⟩
    refine for_rangeC (fun i' σ G' => Same G1 G' ∧ ∃ (ds : List (List G2)) (u9 : Option V), σ = [some (.ref a), some (.int (n : Int)), some (.int (m : Int)), some (.str (S w)), some (.str (S pl)), some x5, some (.int (M : Int)), some (.int R), some (.int (v2 : Int)), u9, some (.ref line), some xp, some (.int (0 + (i : Int))), some (.ref j), u14] ∧ LL G' j ds ∧ ds.length ≤ i' ∧ ds ++ JJ w b (cs.drop (2 * i')) = JJ w b cs)
      ⟨sj, [], _, rfl, LL.nil_ ej, Nat.le_refl _, rfl⟩ ?_ ?_
    · rintro i' σ G2' hi' ⟨s2, ds, u9, rfl, lj, hdl, hds⟩
      have hi' : i' < (cs.length + 1) / 2 := hi'
      dsimp only [gName]
      walk_at "v"
      rw [show ((0 : Int) + (i' : Int) * 2) = ((2 * i' : Nat) : Int) by omega]
      refine (ll.same s2).len ?_
      walk_at "v"
      have fresh : ∀ {r : Addr} {c : List G2}, DL G1 r (gd c) → r ≠ j := fun d z => by
        obtain ⟨_, e⟩ := d.lst
        rw [z, hj] at e; cases e
      have jlst : ∃ xs, G2' j = some (.lst xs) := let ⟨xs, e, _⟩ := lj; ⟨xs, e⟩
      by_cases hk : 2 * i' + 1 < cs.length
      · rw [decide_eq_true (show ((2 * i' : Nat) : Int) + 1 < (cs.length : Int) by omega)]
        obtain ⟨c1, c2, e1, e2, e3⟩ := drop_two hk
        walk_at "v"
        refine lj.ty ?_
        walk_at "v"
        have tp2 := tp.tm (Tm.same (sG.tr s2))
        refine ev_lst (ds := gd [.app, .app, .tip (.var w (.to b (.to b b)))]) (eva_cons (ev_tup (eva_cons ev_str eva_nil)) (eva_cons (ev_tup (eva_cons ev_str eva_nil)) (eva_cons (ev_var rfl tp2) eva_nil))) (fun l3 H3 h3 s3' d3 => ?_)
        walk_at "v"
        refine ll.ix (s2.tr s3') e1 (fun r1 d1 => ?_)
        have z1 : c1.length ≤ 404 := by
          have : c1 ∈ cs := List.mem_of_getElem? e1
          have := wt_mem this
          omega
        have z2 : c2.length ≤ 404 := by
          have : c2 ∈ cs := List.mem_of_getElem? e2
          have := wt_mem this
          omega
        refine l_cat d3 (d1.same (s2.tr s3')) (fun l4 H4 h4 s4' d4 => ?_) (by rw [gd_len, gd_len]; show 3 + c1.length ≤ 100000; omega)
        rw [← gd_app] at d4
        walk_at "v"
        rw [show ((2 * i' : Nat) : Int) + 1 = ((2 * i' + 1 : Nat) : Int) by omega]
        refine ll.ix ((s2.tr s3').tr s4') e2 (fun r2 d2 => ?_)
        refine l_cat d4 (d2.same ((s2.tr s3').tr s4')) (fun l5 H5 h5 s5' d5 => ?_) (by rw [gd_len, gd_len, List.length_append]; show 3 + c1.length + c2.length ≤ 100000; omega)
        rw [← gd_app] at d5
        walk_at "v"
        have s25 := (s3'.tr s4').tr s5'
        have hne : l5 ≠ j := fun z => by
          obtain ⟨_, e⟩ := jlst
          rw [z, (s3'.tr s4') _ _ e] at h5; cases h5
        refine (lj.same s25).app d5 hne (by omega) (fun H6 lj6 x6 => ?_)
        walk_at "v"
        exact ⟨(s2.tr s25).ex hj x6, _, _, rfl, lj6, by rw [List.length_append]; show ds.length + 1 ≤ i' + 1; omega, by
          rw [← hds, e3, show 2 * (i' + 1) = 2 * i' + 2 by omega, List.append_assoc]; rfl⟩
      · rw [decide_eq_false (show ¬ ((2 * i' : Nat) : Int) + 1 < (cs.length : Int) by omega)]
        obtain ⟨c1, e1, e3⟩ := drop_one (show 2 * i' + 1 = cs.length by omega)
        walk_at "v"
        refine lj.ty ?_
        walk_at "v"
        refine ll.ix s2 e1 (fun r1 d1 => ?_)
        walk_at "v"
        refine lj.app (d1.same s2) (fresh d1) (by omega) (fun H6 lj6 x6 => ?_)
        walk_at "v"
        exact ⟨s2.ex hj x6, _, _, rfl, lj6, by rw [List.length_append]; show ds.length + 1 ≤ i' + 1; omega, by
          rw [← hds, e3, List.drop_eq_nil_of_le (by omega)]
          show (ds ++ [c1]) ++ [] = ds ++ [c1]
          rw [List.append_nil]⟩
    · rintro σ G2' ⟨s2, ds, u9, rfl, lj, hdl, hds⟩
      walk_at "v"
      rw [List.drop_eq_nil_of_le (by omega)] at hds
      have hds : ds = JJ w b cs := by rw [← hds]; exact (List.append_nil _).symm
      subst hds
      refine ⟨sG.tr s2, j, _, _, _, _, _, rfl, lj, hjH, (fun _ _ => trivial), JJ_ok hw hww okb szb hok, by rw [JJ_wt]; exact hwt, by rw [JJ_len]; omega, ?_⟩
      rw [JJ_len]
      rw [show 7 - i = (7 - (i + 1)) + 1 by omega, Nat.pow_succ] at hl2
      omega
  · rintro σ G1 ⟨sG, line, cs, u9, u12, u13, u14, rfl, ll, hln, _, hok, hwt, hl1, hl2⟩
    have hl2 : cs.length ≤ 1 := hl2
    obtain ⟨c, rfl⟩ : ∃ c, cs = [c] := by
      match cs, hl1, hl2 with
      | [c], _, _ => exact ⟨c, rfl⟩
    have wo := hok c List.mem_cons_self
    rw [wt_one] at hwt
    walk_at "v"
    refine ll.ix (i := 0) (Same.refl' _) rfl (fun r dr => ?_)
    walk_at "v"
    have tG1 := hbG.tm (Tm.same sG)
    have wo15 : Wo b ws 15 c := wo
    have hl0 : (c.length : Int) + R = n := by omega
    refine w_mid (fun σ G' => Same G G' ∧ ∃ (r : Addr) (c : List G2) (R : Int), σ = [some (.ref a), some (.int (n : Int)), some (.int (m : Int)), some (.str (S w)), some (.str (S pl)), some x5, some (.int (M : Int)), some (.int R), some (.int (v2 : Int)), u9, some (.ref line), some xp, u12, u13, some (.ref r)] ∧ DL G' r (gd c) ∧ Wo b ws 17 c ∧ (c.length : Int) + R = n ∧ (R = 0 ∨ R = 2)) ?_ ?_
    · walk_at "v"
      refine w_dec (fun _ => ?_) (fun _ => ⟨sG, r, c, R, rfl, dr, wo15.mono (by omega), hl0, by omega⟩)
      walk_at "v"
      refine ev_lst (ds := gd [.app, .lam b]) (eva_cons (by show Ev _ _ _ (.tuple [.str (S wAPP)]); walk_at "d") (eva_cons (by show Ev _ _ _ (.tuple [.str (S wLAM), b.d]); walk_at "d") eva_nil)) (fun l3 H3 h3 s3' d3 => ?_)
      walk_at "v"
      refine l_cat d3 (dr.same s3') (fun l4 H4 h4 s4' d4 => ?_) (by rw [gd_len, gd_len]; show 2 + c.length ≤ 100000; omega)
      rw [← gd_app] at d4
      walk_at "v"
      have tG4 := tG1.tm (Tm.same (s3'.tr s4'))
      have tpl := TD.str (H := H4) (S pl)
      refine ev_lst (ds := gd [.tip (.cst pl b)]) (eva_cons (by show Ev _ _ _ (.tuple [.str (S wCONST), .str (S pl), b.d]); walk_at "d") eva_nil) (fun l5 H5 h5 s5' d5 => ?_)
      walk_at "v"
      have s15 := (sG.tr (s3'.tr s4')).tr s5'
      refine l_cat (d4.same s5') d5 (fun l6 H6 h6 s6' d6 => ?_) (by rw [gd_len, gd_len, List.length_append]; show 2 + c.length + 1 ≤ 100000; omega)
      rw [← gd_app] at d6
      walk_at "v"
      refine ⟨s15.tr s6', l6, _, R - 3, rfl, d6, wo15.lamC (by omega) hpl gb szb, by rw [List.length_append, List.length_append]; show ((2 + c.length + 1 : Nat) : Int) + (R - 3) = n; omega, by omega⟩
    rintro σ G4 ⟨s4', r, c, R', rfl, dr, wo17, hl17, hR'⟩
    have tG1 := hbG.tm (Tm.same s4')
    walk_at "v"
    refine w_dec (fun _ => ?_) (fun _ => ?_)
    · walk_at "v"
      have tpl := TD.str (H := G4) (S pl)
      refine ev_lst (ds := gd [.app, .tip (.cst pl (.to b b))]) (eva_cons (by show Ev _ _ _ (.tuple [.str (S wAPP)]); walk_at "d") (eva_cons (by show Ev _ _ _ (.tuple [.str (S wCONST), .str (S pl), .tuple [.str (S wTO), b.d, b.d]]); walk_at "d") eva_nil)) (fun l3 H3 h3 s3' d3 => ?_)
      walk_at "v"
      refine l_cat d3 (dr.same s3') (fun l5 H5 h5 s5' d5 => ?_) (by rw [gd_len, gd_len]; show 2 + c.length ≤ 100000; omega)
      rw [← gd_app] at d5
      walk_at "v"
      have sG5 := s4'.tr (s3'.tr s5')
      exact hQ l5 H5 _ d5 ((wo17.hopC hpl gb szb).mono (by omega)) (by rw [List.length_append]; show 2 + c.length = n; omega) (PG.same sG5) (kG.then sG5)
    · walk_at "v"
      exact hQ r G4 c dr (wo17.mono (by omega)) (by omega) (PG.same s4') (kG.then s4')
end
end K01

namespace K01
open PySem PySem.Spec PyProof.Rows L2 SX K02
local macro_rules | `(tactic| walk_at "w1") => `(tactic| (first
  | with_reducible refine w_seq ?_ | with_reducible refine w_asgN ?_ | with_reducible refine w_c ?_
  | ((with_reducible refine' w_var ?wv ?_); (case wv => exact rfl))
  | with_reducible refine w_op ?_ | with_reducible refine w_un ?_ | with_reducible refine w_next ?_ | with_reducible refine w_brk ?_ | with_reducible refine w_cnt ?_
  | with_reducible refine w_ifS ?_ | with_reducible refine w_if ?_ | with_reducible refine w_test ?_ | with_reducible refine w_tB ?_ | with_reducible refine w_bl ?_ | with_reducible refine w_blI ?_
  | with_reducible refine w_and ?_ | with_reducible refine w_or ?_ | with_reducible refine w_not ?_ | with_reducible refine w_andV ?_ | with_reducible refine w_orV ?_ | with_reducible refine w_notV ?_
  | with_reducible refine w_nil ?_ | with_reducible refine w_cons ?_ | with_reducible refine w_cb ?_ | with_reducible refine w_call ?_ | with_reducible refine w_callS ?_ | with_reducible refine w_chain ?_
  | with_reducible refine w_tupN ?_ | with_reducible refine w_lstN ?_ | with_reducible refine w_sl ?_ | with_reducible refine w_noPart ?_ | with_reducible refine w_part ?_ | with_reducible refine w_partI ?_
  | with_reducible refine w_ret ?_ | with_reducible refine w_retN ?_ | with_reducible refine w_drop ?_ | with_reducible refine w_asg ?_ | with_reducible refine w_gSub ?_
  | ((with_reducible refine' w_aug ?wv ?_); (case wv => exact rfl)) | with_reducible refine w_ipI ?_
  | with_reducible refine w_addI ?_ | with_reducible refine w_subI ?_ | with_reducible refine w_ltI ?_ | with_reducible refine w_leI ?_ | with_reducible refine w_gtI ?_ | with_reducible refine w_geI ?_
  | with_reducible refine w_eqI ?_ | with_reducible refine w_neI ?_ | with_reducible refine w_eqT ?_ | with_reducible refine w_neT ?_ | with_reducible refine w_inS ?_ | with_reducible refine w_ninS ?_
  | with_reducible refine w_absI ?_ | with_reducible refine w_intI ?_ | with_reducible refine w_maxI ?_ | with_reducible refine w_minI ?_
  | with_reducible refine w_for ?_ | with_reducible refine w_iR1 ?_ | with_reducible refine w_iR2 ?_ | with_reducible refine w_iStr ?_ | with_reducible refine w_strI ?_ | with_reducible refine w_iList ?_ | with_reducible refine w_iTup ?_
  | with_reducible refine w_bm ?_ | with_reducible refine w_bm0 ?_ | with_reducible refine w_t ?_ | with_reducible refine w_f ?_ | with_reducible refine w_nt ?_ | with_reducible refine w_nx ?_ | with_reducible refine w_rt ?_ | with_reducible refine w_bk ?_ | with_reducible refine w_ct ?_ | with_reducible refine w_nf ?_ | with_reducible refine w_lc ?_ | with_reducible refine w_yes ?_ | with_reducible refine w_neg ?_ | with_reducible refine w_intB ?_ | with_reducible refine w_fld ?_ | with_reducible refine w_setf ?_ | with_reducible refine w_faug ?_ | with_reducible refine w_meth ?_ | with_reducible refine w_bmS ?_ | with_reducible refine w_start ?_ | with_reducible refine w_revL ?_ | with_reducible refine w_iR3 ?_))
local macro_rules | `(tactic| walk_at "w") => `(tactic| (repeat (first | walk_at "w1" | dsimp (config := { proj := false }) only [List.set_cons_zero, List.set_cons_succ])))
section
variable {w : World} {K : PySem.W.Frag} {mg : Str → Option Value} {base : Heap}
local macro_rules | `(tactic| walk_at "v1") => `(tactic| (first
  | with_reducible refine w_seq ?_ | with_reducible refine w_asgN ?_ | with_reducible refine w_c ?_
  | ((with_reducible refine' w_var ?wv ?_); (case wv => exact rfl))
  | with_reducible refine w_op ?_ | with_reducible refine w_un ?_ | with_reducible refine w_next ?_ | with_reducible refine w_brk ?_ | with_reducible refine w_cnt ?_
  | with_reducible refine w_ifS ?_ | with_reducible refine w_if ?_ | with_reducible refine w_test ?_ | with_reducible refine w_tB ?_ | with_reducible refine w_bl ?_ | with_reducible refine w_blI ?_
  | with_reducible refine w_and ?_ | with_reducible refine w_or ?_ | with_reducible refine w_not ?_ | with_reducible refine w_andV ?_ | with_reducible refine w_orV ?_ | with_reducible refine w_notV ?_
  | with_reducible refine w_nil ?_ | with_reducible refine w_cons ?_ | with_reducible refine w_cb ?_ | with_reducible refine w_call ?_ | with_reducible refine w_callS ?_ | with_reducible refine w_chain ?_
  | with_reducible refine w_sl ?_ | with_reducible refine w_noPart ?_ | with_reducible refine w_part ?_ | with_reducible refine w_partI ?_
  | with_reducible refine w_ret ?_ | with_reducible refine w_retN ?_ | with_reducible refine w_drop ?_ | with_reducible refine w_asg ?_ | with_reducible refine w_gSub ?_
  | ((with_reducible refine' w_aug ?wv ?_); (case wv => exact rfl)) | with_reducible refine w_ipI ?_
  | with_reducible refine w_addI ?_ | with_reducible refine w_subI ?_ | with_reducible refine w_ltI ?_ | with_reducible refine w_leI ?_ | with_reducible refine w_gtI ?_ | with_reducible refine w_geI ?_
  | with_reducible refine w_eqI ?_ | with_reducible refine w_neI ?_ | with_reducible refine w_eqT ?_ | with_reducible refine w_neT ?_ | with_reducible refine w_inS ?_ | with_reducible refine w_ninS ?_
  | with_reducible refine w_absI ?_ | with_reducible refine w_intI ?_ | with_reducible refine w_maxI ?_ | with_reducible refine w_minI ?_
  | with_reducible refine w_for ?_ | with_reducible refine w_iR1 ?_ | with_reducible refine w_iR2 ?_ | with_reducible refine w_iStr ?_ | with_reducible refine w_strI ?_ | with_reducible refine w_iList ?_ | with_reducible refine w_iTup ?_
  | with_reducible refine w_bm ?_ | with_reducible refine w_bm0 ?_ | with_reducible refine w_t ?_ | with_reducible refine w_f ?_ | with_reducible refine w_nt ?_ | with_reducible refine w_nx ?_ | with_reducible refine w_rt ?_ | with_reducible refine w_bk ?_ | with_reducible refine w_ct ?_ | with_reducible refine w_nf ?_ | with_reducible refine w_lc ?_ | with_reducible refine w_yes ?_ | with_reducible refine w_neg ?_ | with_reducible refine w_intB ?_ | with_reducible refine w_fld ?_ | with_reducible refine w_setf ?_ | with_reducible refine w_faug ?_ | with_reducible refine w_meth ?_ | with_reducible refine w_bmS ?_ | with_reducible refine w_start ?_ | with_reducible refine w_revL ?_ | with_reducible refine w_iR3 ?_))
local macro_rules | `(tactic| walk_at "v") => `(tactic| (repeat (first | walk_at "v1" | dsimp (config := { proj := false }) only [List.set_cons_zero, List.set_cons_succ])))
local macro_rules | `(tactic| walk_at "d") => `(tactic| (repeat (first | exact eva_nil | refine eva_cons ?_ ?_ | exact ev_str | exact ev_int | exact ev_neg | refine ev_tup ?_ | (refine ev_var rfl ?_; assumption))))


theorem w_disp1 {tk tv : TE} {σ : L2.St} {H : Hp} {Q : VK} (h : ∀ p H', H p = none → Same H H' → H' p = some (.dK []) → tk σ H' fun x H1 => tv σ H1 fun y H2 => H2 p = some (.dK []) ∧ ∃ kvs : List (Key × V), [(x, y)] = kvs.map (fun kv => (kV kv.1, kv.2)) ∧ kvs.length ≤ 15 ∧ Q (.ref p) (upd H2 p (.dK (mergeK [] kvs)))) : tDisp [(tk, tv)] σ H Q :=
  fun p hp => h p _ hp (same_upd (o := .dK []) hp) upd_same
theorem rep_gd (c : List G2) : ∀ j : Nat, (List.replicate j (gd c)).flatten = gd (List.replicate j c).flatten
  | 0 => rfl
  | j + 1 => by rw [List.replicate_succ, List.replicate_succ, List.flatten_cons, List.flatten_cons, rep_gd c j, gd_app]
/-- a code of one tree, of some kind -/
def Wq (b : Kd) (ws : List (List Nat)) (d : Nat) (c : List G2) : Prop := ∃ t, fok c ∧ fo c = [t] ∧ (∀ ar, ∃ k, typed t ar = some k) ∧ t.dep ≤ d ∧ ∀ r ∈ c, r.gok ∧ fine ws r
section
variable {b : Kd} {ws : List (List Nat)} {d : Nat} {c : List G2} {pl : List Nat}
theorem Wo.q (h : Wo b ws d c) : Wq b ws d c := let ⟨t, a1, a2, a3, a4, a5⟩ := h; ⟨t, a1, a2, fun ar => ⟨_, a3 ar⟩, a4, a5⟩
theorem Wo.hops (h : Wo b ws d c) (hp : isName pl = true) (hb : GK b) (hs : b.sz ≤ 1) : ∀ j : Nat, Wo b ws (d + j) ((List.replicate j ([.app, .tip (.cst pl (.to b b))] : List G2)).flatten ++ c)
  | 0 => h
  | j + 1 => by
    rw [List.replicate_succ, List.flatten_cons, List.append_assoc]
    exact (h.hops hp hb hs j).hopC hp hb hs
theorem Wq.lams (h : Wq b ws d c) (hb : GK b) (hs : b.sz ≤ 1) : ∀ i : Nat, Wq b ws (d + i) ((List.replicate i ([.lam b] : List G2)).flatten ++ c)
  | 0 => h
  | i + 1 => by
    rw [List.replicate_succ, List.flatten_cons, List.append_assoc]
    obtain ⟨t, a1, a2, a3, a4, a5⟩ := h.lams hb hs i
    refine ⟨.lam b t, (Vc.lam (n := 0) ⟨a1, by rw [a2]; rfl⟩).1, ?_, fun ar => ?_, ?_, fun r hr => ?_⟩
    · show push1 (.lam b) (fo ((List.replicate i ([.lam b] : List G2)).flatten ++ c)) = _
      rw [a2]; rfl
    · obtain ⟨k, hk⟩ := a3 (b :: ar)
      exact ⟨_, typed_lam2 hk⟩
    · show t.dep + 1 ≤ d + (i + 1)
      omega
    · rcases List.mem_cons.mp hr with rfl | hr
      · exact ⟨hb, by show b.sz ≤ 53; omega⟩
      · exact a5 r hr
end
theorem len_rep (c : List G2) : ∀ j : Nat, (List.replicate j c).flatten.length = j * c.length
  | 0 => by simp
  | j + 1 => by rw [List.replicate_succ, List.flatten_cons, List.length_append, len_rep c j, Nat.succ_mul]; omega
theorem fb_one {b : Kd} {ws : List (List Nat)} {d : Nat} {c : List G2} {w : List Nat} (h : Wo b ws d c) (hb : GK b) (hl : c.length ≤ 100) : FbOk d (setT (fun _ => none) w (b, c)) := fun w' k' c' e => by
  unfold setT at e
  split at e
  · cases e
    obtain ⟨t, a1, a2, a3, a4, a5⟩ := h
    refine ⟨hb, ⟨a1, by rw [a2]; exact .cons (a3 []) .nil⟩, fun r hr => (a5 r hr).1, hl, fun t' ht => ?_⟩
    rw [a2] at ht
    rw [← (List.cons.inj ht).1]; exact a4
  · cases e
def sp_law_ask_wide : Sp := sp2 fun x y H Q _ => ∃ (a p : Addr) (ws : List (List Nat)), x = .ref a ∧ y = .ref p ∧ Pot a H ∧ NmW ws H p ∧ ∀ H', Pot a H' → Kb a H H' → Q (.bl true) H'
def sp_law_ask_deep : Sp := sp2 fun x y H Q _ => ∃ (a p : Addr) (ws : List (List Nat)), x = .ref a ∧ y = .ref p ∧ Pot a H ∧ NmW ws H p ∧ ∀ H', Pot a H' → Kb a H H' → Q (.bl true) H'
theorem ok_law_ask_wide (T : Txt w K mg) {fd : FuncData} (F : Fn_law_ask_wide K fd) (hm : mg "_law_ask_wide" = some (.ref (He.ga K "_law_ask_wide"))) (c_law_take : CalX P w K mg base CX0 1 "_law_take" sp_law_take)(c_law_wide : CalX P w K mg base CX0 2 "_law_wide" sp_law_wide)(c_law_ask_put : CalG P w K mg base CX0 134 "_law_ask_put" sp_law_ask_put)(c_law_new : CalX P w K mg base CX0 1 "_law_new" sp_law_new)(c_law_ask_abstract : CalG P w K mg base CX0 134 "_law_ask_abstract" sp_law_ask_abstract) : CalG P w K mg base CX0 135 "_law_ask_wide" sp_law_ask_wide := by
  refine calg0 (k := 134) F hm sc_law_ask_wide (b_law_ask_wide F) (fun _ _ _ _ h => sp2_len h) (fun cdv A outer s H vs Q E hr h => ?_)
  obtain ⟨x0, x1, rfl, h⟩ := h
  refine ⟨_, (pss_cons (ps_set (i := 2) sc_law_ask_wide.nd rfl (Or.inl rfl) (pe_tup (pa_cons pe_str (pa_cons (pe_ix ix_list (pv 1) pe_int (fun _ _ => rfl)) pa_nil))))
    (pss_cons (ps_set (i := 3) sc_law_ask_wide.nd rfl (Or.inl rfl) (pe_ix ix_list (pv 1) pe_int (fun _ _ => rfl)))
    (pss_cons (ps_set (i := 4) sc_law_ask_wide.nd rfl (Or.inl rfl) (pe_op op_addI pe_int (pe_cx c_law_take hr.toRoom (by decide) rfl pass0 (pa_cons (pv 0) (pa_cons pe_int pa_nil)))))
    (pss_cons (ps_set (i := 5) sc_law_ask_wide.nd rfl (Or.inl rfl) (pe_op op_addI pe_int (pe_cx c_law_take hr.toRoom (by decide) rfl pass0 (pa_cons (pv 0) (pa_cons pe_int pa_nil)))))
    (pss_cons (ps_set (i := 6) sc_law_ask_wide.nd rfl (Or.inl rfl) (pe_op op_subI (pe_op op_addI pe_int (pe_cx c_law_take hr.toRoom (by decide) rfl pass0 (pa_cons (pv 0) (pa_cons pe_int pa_nil)))) (pe_op op_mulI (pv 4) (pe_op op_subI (pv 5) pe_int))))
    (pss_cons (ps_set (i := 7) sc_law_ask_wide.nd rfl (Or.inl rfl) (pe_cx c_law_wide hr.toRoom (by decide) rfl pass0 (pa_cons (pv 0) (pa_cons (pv 6) (pa_cons (pv 4) (pa_cons (pv 3) (pa_cons (pe_ix ix_list (pv 1) pe_int (fun _ _ => rfl)) (pa_cons (pv 2) pa_nil))))))))
    (pss_cons (ps_set (i := 8) sc_law_ask_wide.nd rfl (Or.inl rfl) (pe_cx c_law_wide hr.toRoom (by decide) rfl pass0 (pa_cons (pv 0) (pa_cons (pv 5) (pa_cons pe_int (pa_cons (pe_ix ix_list (pv 1) pe_int (fun _ _ => rfl)) (pa_cons (pe_ix ix_list (pv 1) pe_int (fun _ _ => rfl)) (pa_cons (pv 2) pa_nil))))))))
    (pss_cons (ps_if (pt_not (pt_val (pe_cg c_law_ask_put hr (by decide) rfl pass0 (pa_cons (pv 7) (pa_cons (pe_disp (pps_cons (pv 3) (pe_tup (pa_cons (pv 2) (pa_cons (pv 8) pa_nil))) pps_nil) (by rfl) (by rfl) (fun z => by cases z) (by decide)) pa_nil)))))
    (pss_one (ps_ret pe_bl))
    pss_nil)
    (pss_one (ps_ret (pe_cg c_law_ask_abstract hr (by decide) rfl pass0 (pa_cons (pv 7) (pa_cons (pv 3) (pa_cons (pv 2) (pa_cons (pv 8) (pa_cons (pe_cx c_law_new hr.toRoom (by decide) rfl pass0 (pa_cons (pv 1) pa_nil)) pa_nil)))))))))))))))), ?_⟩
  rw [show start ["pot", "words", "base", "word", "marked", "weight", "count", "code", "filler"] [x0, x1] = [some x0, some x1, none, none, none, none, none, none, none] from rfl]
  have ec0 : Str.ofString "named" = S [110,97,109,101,100] := S_ofs (by decide +kernel)
  rw [ec0]
  obtain ⟨a, p, ws, rfl, rfl, hP, hW, hQ⟩ := h
  have hpa : p ≠ a := hW.ne hP
  obtain ⟨w0, w1, w2, w3, ews⟩ := hW.four
  have nm : ∀ {w : List Nat}, w ∈ ws → isName w = true := fun h => hW.2.2 _ h
  have m0 : w0 ∈ ws := by rw [ews]; simp
  have m1 : w1 ∈ ws := by rw [ews]; simp
  have m2 : w2 ∈ ws := by rw [ews]; simp
  have m3 : w3 ∈ ws := by rw [ews]; simp
  have nm0 := nm m0
  have nm1 := nm m1
  have nm2 := nm m2
  have nm3 := nm m3
  obtain ⟨b, hbe⟩ : ∃ b : Kd, b = .nm w0 := ⟨_, rfl⟩
  have okb : b.ok := by rw [hbe]; exact .inl nm0
  have szb : b.sz ≤ 1 := by rw [hbe]; exact Nat.le_refl _
  have gb : GK b := ⟨okb, by omega⟩
  try dsimp only [cxOf]
  walk_at "v"
  refine w_tupN ?_
  walk_at "v"
  refine hW.at_ (i := 0) (w := w0) (by rw [ews]; rfl) (fun _ => ?_)
  walk_at "v"
  refine t_new (ds := [.str (S wNAMED), .str (S w0)]) (.cons (.str _) (.cons (.str _) .nil)) (fun bp H1 hbp s1 tb1 => ?_)
  have tb1 : TD H1 (.ref bp) b.d := by rw [hbe]; exact tb1
  have P1 := hP.same s1
  have k01 : Kb a H H1 := Kb.same s1
  walk_at "v"
  refine (hW.kb hP k01 hpa).at_ (i := 1) (w := w1) (by rw [ews]; rfl) (fun _ => ?_)
  walk_at "v"
  refine ⟨_, _, rfl, a, 9, rfl, rfl, by omega, by omega, P1, fun v2 H2 hv2 P2 k2 => ?_⟩
  walk_at "v"
  have k02 := k01.tr k2
  refine ⟨_, _, rfl, a, 30, rfl, rfl, by omega, by omega, P2, fun v3 H3 hv3 P3 k3 => ?_⟩
  walk_at "v"
  have k03' := k02.tr k3
  refine ⟨_, _, rfl, a, 5, rfl, rfl, by omega, by omega, P3, fun v4 H4 hv4 P4 k4 => ?_⟩
  walk_at "v"
  have k04 := k03'.tr k4
  refine w_mulI (.inl (by omega)) ?_
  walk_at "v"
  obtain ⟨n, hn, hn1, hn2⟩ : ∃ n : Nat, (397 : Int) + (v4 : Int) - (1 + (v2 : Int)) * (3 + (v3 : Int) - 1) = (n : Int) ∧ 3 ≤ n ∧ n ≤ 399 := by
    have h1 : (1 + v2) * (2 + v3) ≤ 9 * 31 := Nat.mul_le_mul (by omega) (by omega)
    have h2 : 1 * 2 ≤ (1 + v2) * (2 + v3) := Nat.mul_le_mul (by omega) (by omega)
    refine ⟨397 + v4 - (1 + v2) * (2 + v3), ?_, by omega, by omega⟩
    have e : (1 + (v2 : Int)) * (3 + (v3 : Int) - 1) = (((1 + v2) * (2 + v3) : Nat) : Int) := by
      rw [show (3 + (v3 : Int) - 1) = ((2 + v3 : Nat) : Int) by omega, show (1 + (v2 : Int)) = ((1 + v2 : Nat) : Int) by omega, ← Int.natCast_mul]
    rw [e]; omega
  rw [hn]
  rw [show (1 + (v2 : Int)) = ((1 + v2 : Nat) : Int) by omega, show (3 + (v3 : Int)) = ((3 + v3 : Nat) : Int) by omega]
  refine (hW.kb hP k04 hpa).at_ (i := 2) (w := w2) (by rw [ews]; rfl) (fun _ => ?_)
  walk_at "v"
  have tb4 := ((tb1.tm (Kb.pot_tm P1 k2)).tm (Kb.pot_tm P2 k3)).tm (Kb.pot_tm P3 k4)
  refine ⟨_, _, _, _, _, _, rfl, a, n, 1 + v2, w1, w2, w0, ws, rfl, rfl, rfl, rfl, rfl, by rw [← hbe]; exact tb4, hn1, hn2, by omega, nm1, m1, nm2, nm0, P4, fun cp H5 c dc woc hlc P5 k5 => ?_⟩
  walk_at "v"
  have k05 := k04.tr k5
  refine (hW.kb hP k05 hpa).at_ (i := 3) (w := w3) (by rw [ews]; rfl) (fun _ => ?_)
  walk_at "v"
  refine (hW.kb hP k05 hpa).at_ (i := 2) (w := w2) (by rw [ews]; rfl) (fun _ => ?_)
  walk_at "v"
  have tb5 := tb4.tm (Kb.pot_tm P4 k5)
  refine ⟨_, _, _, _, _, _, rfl, a, 3 + v3, 0, w3, w2, w0, ws, rfl, rfl, rfl, rfl, rfl, by rw [← hbe]; exact tb5, by omega, by omega, by omega, nm3, m3, nm2, nm0, P5, fun fp H6 fc dfc wof hlf P6 k6 => ?_⟩
  rw [← hbe] at woc wof
  have k0c := k05.tr k6
  have Pc := P6
  have tbc := tb5.tm (Kb.pot_tm P5 k6)
  have dcc := DLkb dc P5 k6 (DL.ne_pot dc P5 gd_ne_int)
  have woc := woc.q
  walk_at "v"
  refine w_disp1 (fun fa G1 hfa z1 e1 => ?_)
  walk_at "v"
  have k0x := k0c.then z1
  refine w_tupN ?_
  walk_at "v"
  refine n_T (fun tb G2 htb z2 e2 => ?_)
  have fa2 := z2 _ _ e1
  refine ⟨fa2, [(Sum.inr (S w1), V.ref tb)], rfl, Nat.le_add_left 1 14, ?_⟩
  obtain ⟨G3, hG3⟩ : ∃ G3, G3 = upd G2 fa (.dK (mergeK [] [(Sum.inr (S w1), V.ref tb)])) := ⟨_, rfl⟩
  rw [← hG3]
  have e3 : G3 fa = some (.dK (putK [] (Sum.inr (S w1)) (.ref tb))) := by rw [hG3]; exact upd_same
  have x3 : Ex fa G2 G3 := fun b hb => by rw [hG3]; exact upd_ne hb
  walk_at "v"
  have tm3 := Tm.exK fa2 x3
  have df3 : DL G3 fp (gd fc) := by
    obtain ⟨zs, e, t⟩ := (dfc.same z1).same z2
    exact ⟨zs, by rw [x3 fp (ne_lst_dk e fa2)]; exact e, t.tm tm3⟩
  have dc3 : DL G3 cp (gd c) := by
    obtain ⟨zs, e, t⟩ := (dcc.same z1).same z2
    exact ⟨zs, by rw [x3 cp (ne_lst_dk e fa2)]; exact e, t.tm tm3⟩
  have hfaa : fa ≠ a := Pot.ne Pc hfa
  have P3 := (((Pc.same z1).same z2).ex x3 hfaa.symm)
  have hfaH : H fa = none := fresh_kb Pc k0c hfa
  have k03 := ((k0c.then z1).then z2).ex hfaH x3
  have tb3 := ((tbc.tm (Tm.same z1)).tm (Tm.same z2)).tm tm3
  have FD3 : FD G3 (putK [] (Sum.inr (S w1)) (.ref tb)) 1 (setT (fun _ => none) w1 (b, fc)) :=
    FD.put (n := 0) ⟨Nat.le_refl _, fun p hp => absurd hp List.not_mem_nil, fun w => .inl ⟨rfl, rfl⟩⟩ (tm3 _ _ e2) tb3 df3
  obtain ⟨tv, hokv, hfov, htyv, hdv, hfv⟩ := wof
  obtain ⟨t, hok, hfo, hty, hdt, hfi⟩ := woc
  obtain ⟨kt, hkt⟩ := hty []
  have hsc := typed_scope hkt
  refine ⟨_, _, rfl, cp, fa, c, t, _, 1, 20, _, rfl, rfl, dc3, hok, hfo, fun r hr => (hfi r hr).1, by omega, by omega, hsc, e3, FD3, by omega, fb_one ⟨tv, hokv, hfov, htyv, hdv, hfv⟩ gb (by omega), fun G4 s4 => ?_⟩
  walk_at "v"
  have W4 := hW.kb hP (k03.then s4) hpa
  refine ⟨_, rfl, p, ws, rfl, W4.1, W4.2.1, fun nw hnw hni => ?_⟩
  walk_at "v"
  exact ⟨_, _, _, _, _, rfl, cp, fp, c, fc, t, tv, w1, nw, b, rfl, rfl, tb3.tm (Tm.same s4), rfl, rfl, dc3.same s4, df3.same s4, hok, hfo, hokv, hfov, fun r hr => (hfi r hr).1, fun r hr => (hfv r hr).1, by omega, by omega, by omega, hsc, typed_scope (htyv []), nm1, hnw, gb, fine_notIn hok hfo (fun r hr => (hfi r hr).2) hni, fun G5 s5 => hQ G5 ((P3.same s4).same s5) ((k03.then s4).then s5)⟩
theorem ok_law_ask_deep (T : Txt w K mg) {fd : FuncData} (F : Fn_law_ask_deep K fd) (hm : mg "_law_ask_deep" = some (.ref (He.ga K "_law_ask_deep"))) (c_law_take : CalX P w K mg base CX0 1 "_law_take" sp_law_take)(c_law_ask_put : CalG P w K mg base CX0 134 "_law_ask_put" sp_law_ask_put)(c_law_new : CalX P w K mg base CX0 1 "_law_new" sp_law_new)(c_law_ask_abstract : CalG P w K mg base CX0 134 "_law_ask_abstract" sp_law_ask_abstract) : CalG P w K mg base CX0 135 "_law_ask_deep" sp_law_ask_deep := by
  refine calg0 (k := 134) F hm sc_law_ask_deep (b_law_ask_deep F) (fun _ _ _ _ h => sp2_len h) (fun cdv A outer s H vs Q E hr h => ?_)
  obtain ⟨x0, x1, rfl, h⟩ := h
  refine ⟨_, (pss_cons (ps_set (i := 2) sc_law_ask_deep.nd rfl (Or.inl rfl) (pe_tup (pa_cons pe_str (pa_cons (pe_ix ix_list (pv 1) pe_int (fun _ _ => rfl)) pa_nil))))
    (pss_cons (ps_set (i := 3) sc_law_ask_deep.nd rfl (Or.inl rfl) (pe_tup (pa_cons pe_str (pa_cons (pe_ix ix_list (pv 1) pe_int (fun _ _ => rfl)) (pa_cons (pe_tup (pa_cons pe_str (pa_cons (pv 2) (pa_cons (pv 2) pa_nil)))) pa_nil)))))
    (pss_cons (ps_set (i := 4) sc_law_ask_deep.nd rfl (Or.inl rfl) (pe_op op_cat (pe_op op_rep (pe_lst (pa_cons (pe_tup (pa_cons pe_str (pa_cons (pv 2) pa_nil))) pa_nil)) (pe_cx c_law_take hr.toRoom (by decide) rfl pass0 (pa_cons (pv 0) (pa_cons pe_int pa_nil)))) (pe_op op_rep (pe_lst (pa_cons (pe_tup (pa_cons pe_str pa_nil)) (pa_cons (pv 3) pa_nil))) (pe_cx c_law_take hr.toRoom (by decide) rfl pass0 (pa_cons (pv 0) (pa_cons pe_int pa_nil))))))
    (pss_cons (ps_expr (pe_bm PySem.F.plainAttrs_list PySem.F.slot_list_append PySem.F.type_list_append mt_append (pv 4) (pa_cons (pe_tup (pa_cons pe_str (pa_cons (pe_ix ix_list (pv 1) pe_int (fun _ _ => rfl)) (pa_cons (pv 2) pa_nil)))) pa_nil)))
    (pss_cons (ps_set (i := 5) sc_law_ask_deep.nd rfl (Or.inl rfl) (pe_op op_cat (pe_op op_rep (pe_lst (pa_cons (pe_tup (pa_cons pe_str pa_nil)) (pa_cons (pv 3) pa_nil))) (pe_cx c_law_take hr.toRoom (by decide) rfl pass0 (pa_cons (pv 0) (pa_cons pe_int pa_nil)))) (pe_lst (pa_cons (pe_tup (pa_cons pe_str (pa_cons (pe_ix ix_list (pv 1) pe_int (fun _ _ => rfl)) (pa_cons (pv 2) pa_nil)))) pa_nil))))
    (pss_cons (ps_if (pt_not (pt_val (pe_cg c_law_ask_put hr (by decide) rfl pass0 (pa_cons (pv 4) (pa_cons (pe_disp (pps_cons (pe_ix ix_list (pv 1) pe_int (fun _ _ => rfl)) (pe_tup (pa_cons (pv 2) (pa_cons (pv 5) pa_nil))) pps_nil) (by rfl) (by rfl) (fun z => by cases z) (by decide)) pa_nil)))))
    (pss_one (ps_ret pe_bl))
    pss_nil)
    (pss_one (ps_ret (pe_cg c_law_ask_abstract hr (by decide) rfl pass0 (pa_cons (pv 4) (pa_cons (pe_ix ix_list (pv 1) pe_int (fun _ _ => rfl)) (pa_cons (pv 2) (pa_cons (pv 5) (pa_cons (pe_cx c_law_new hr.toRoom (by decide) rfl pass0 (pa_cons (pv 1) pa_nil)) pa_nil)))))))))))))), ?_⟩
  rw [show start ["pot", "words", "base", "hop", "code", "filler"] [x0, x1] = [some x0, some x1, none, none, none, none] from rfl]
  have ec0 : Str.ofString "named" = S [110,97,109,101,100] := S_ofs (by decide +kernel)
  have ec1 : Str.ofString "const" = S [99,111,110,115,116] := S_ofs (by decide +kernel)
  have ec2 : Str.ofString "to" = S [116,111] := S_ofs (by decide +kernel)
  have ec3 : Str.ofString "var" = S [118,97,114] := S_ofs (by decide +kernel)
  have ec4 : Str.ofString "lam" = S [108,97,109] := S_ofs (by decide +kernel)
  have ec5 : Str.ofString "app" = S [97,112,112] := S_ofs (by decide +kernel)
  rw [ec0, ec1, ec2, ec3, ec4, ec5]
  obtain ⟨a, p, ws, rfl, rfl, hP, hW, hQ⟩ := h
  have hpa : p ≠ a := hW.ne hP
  obtain ⟨w0, w1, w2, w3, ews⟩ := hW.four
  have nm : ∀ {w : List Nat}, w ∈ ws → isName w = true := fun h => hW.2.2 _ h
  have m0 : w0 ∈ ws := by rw [ews]; simp
  have m1 : w1 ∈ ws := by rw [ews]; simp
  have m2 : w2 ∈ ws := by rw [ews]; simp
  have m3 : w3 ∈ ws := by rw [ews]; simp
  have nm0 := nm m0
  have nm1 := nm m1
  have nm2 := nm m2
  have nm3 := nm m3
  obtain ⟨b, hbe⟩ : ∃ b : Kd, b = .nm w0 := ⟨_, rfl⟩
  have okb : b.ok := by rw [hbe]; exact .inl nm0
  have szb : b.sz ≤ 1 := by rw [hbe]; exact Nat.le_refl _
  have gb : GK b := ⟨okb, by omega⟩
  try dsimp only [cxOf]
  walk_at "v"
  refine w_tupN ?_
  walk_at "v"
  refine hW.at_ (i := 0) (w := w0) (by rw [ews]; rfl) (fun _ => ?_)
  walk_at "v"
  refine t_new (ds := [.str (S wNAMED), .str (S w0)]) (.cons (.str _) (.cons (.str _) .nil)) (fun bp H1 hbp s1 tb1 => ?_)
  have tb1 : TD H1 (.ref bp) b.d := by rw [hbe]; exact tb1
  have P1 := hP.same s1
  have k01 : Kb a H H1 := Kb.same s1
  walk_at "v"
  refine w_tupN ?_
  walk_at "v"
  refine (hW.kb hP k01 hpa).at_ (i := 2) (w := w2) (by rw [ews]; rfl) (fun _ => ?_)
  walk_at "v"
  refine w_tupN ?_
  walk_at "v"
  refine t_new (ds := [.str (S wTO), b.d, b.d]) (.cons (.str _) (.cons tb1 (.cons tb1 .nil))) (fun tp H1' htp s1' tt1 => ?_)
  walk_at "v"
  refine t_new (ds := [.str (S wCONST), .str (S w2), (Kd.to b b).d]) (.cons (.str _) (.cons (.str _) (.cons tt1 .nil))) (fun hp H2 hhp s2' th2 => ?_)
  walk_at "v"
  have s2 := s1'.tr s2'
  have s02 := s1.tr s2
  have P2 := P1.same s2
  have tb2 := tb1.tm (Tm.same s2)
  have k02 : Kb a H H2 := Kb.same s02
  refine ev_lst (ds := gd [.lam b]) (eva_cons (by show Ev _ _ _ (.tuple [.str (S wLAM), b.d]); walk_at "d") eva_nil) (fun l1 H3 h3 s3 d3 => ?_)
  walk_at "v"
  have P3 := P2.same s3
  refine ⟨_, _, rfl, a, 25, rfl, rfl, by omega, by omega, P3, fun v4 H4 hv4 P4 k4 => ?_⟩
  walk_at "v"
  have k04 := (k02.then s3).tr k4
  have nl1 : l1 ≠ a := DL.ne_pot d3 P3 gd_ne_int
  refine l_rep (DLkb d3 P3 k4 nl1) (fun t1 H5 h5 s5 d5 => ?_) (by rw [gd_len]; show 1 * v4 ≤ 100000; omega)
  rw [rep_gd] at d5
  walk_at "v"
  have P5 := P4.same s5
  have tb5 := ((tb2.tm (Tm.same s3)).tm (Kb.pot_tm P3 k4)).tm (Tm.same s5)
  have th5 := ((th2.tm (Tm.same s3)).tm (Kb.pot_tm P3 k4)).tm (Tm.same s5)
  refine ev_lst (ds := gd [.app, .tip (.cst w2 (.to b b))]) (eva_cons (by show Ev _ _ _ (.tuple [.str (S wAPP)]); walk_at "d") (eva_cons (ev_var rfl th5) eva_nil)) (fun l2 H6 h6 s6 d6 => ?_)
  walk_at "v"
  have P6 := P5.same s6
  refine ⟨_, _, rfl, a, 25, rfl, rfl, by omega, by omega, P6, fun v7 H7 hv7 P7 k7 => ?_⟩
  walk_at "v"
  have k07 := ((k04.then s5).then s6).tr k7
  refine l_rep (DLkb d6 P6 k7 (DL.ne_pot d6 P6 gd_ne_int)) (fun t2 H8 h8 s8 d8 => ?_) (by rw [gd_len]; show 2 * v7 ≤ 100000; omega)
  rw [rep_gd] at d8
  walk_at "v"
  have d58 := (DLkb (d5.same s6) P6 k7 (DL.ne_pot (d5.same s6) P6 gd_ne_int)).same s8
  refine l_cat d58 d8 (fun cp H9 h9 s9 d9 => ?_) (by rw [gd_len, gd_len, len_rep, len_rep]; show v4 * 1 + v7 * 2 ≤ 100000; omega)
  rw [← gd_app] at d9
  walk_at "v"
  have P9 := (P7.same s8).same s9
  have k09 := (k07.then s8).then s9
  have tb9 := (((tb5.tm (Tm.same s6)).tm (Kb.pot_tm P6 k7)).tm (Tm.same s8)).tm (Tm.same s9)
  have th9 := (((th5.tm (Tm.same s6)).tm (Kb.pot_tm P6 k7)).tm (Tm.same s8)).tm (Tm.same s9)
  refine l_ty d9 ?_
  walk_at "v"
  refine w_tupN ?_
  walk_at "v"
  refine (hW.kb hP k09 hpa).at_ (i := 1) (w := w1) (by rw [ews]; rfl) (fun _ => ?_)
  walk_at "v"
  refine t_new (ds := [.str (S wVAR), .str (S w1), b.d]) (.cons (.str _) (.cons (.str _) (.cons tb9 .nil))) (fun vp Ha hvp sa ta => ?_)
  walk_at "v"
  have ta : TD Ha (.ref vp) (upR (.tip (.var w1 b))).d := ta
  have hcpH : H cp = none := fresh_kb (P7.same s8) (k07.then s8) h9
  have hcpa : cp ≠ a := Pot.ne (P7.same s8) h9
  refine l_app (d9.same sa) ta (fun Hb db xb => ?_) (by rw [gd_len, List.length_append, len_rep, len_rep]; show v4 * 1 + v7 * 2 ≤ 100000; omega)
  walk_at "v"
  have tmb := (d9.same sa).tm_ex xb
  have Pb := (P9.same sa).ex xb hcpa.symm
  have k0b := (k09.then sa).ex hcpH xb
  obtain ⟨c, hc⟩ : ∃ c : List G2, c = (List.replicate v4 ([.lam b] : List G2)).flatten ++ ((List.replicate v7 ([.app, .tip (.cst w2 (.to b b))] : List G2)).flatten ++ [.tip (.var w1 b)]) := ⟨_, rfl⟩
  have db : DL Hb cp (gd c) := by rw [hc, ← List.append_assoc, gd_app]; exact db
  have woc : Wq b ws 49 c := by
    rw [hc]
    obtain ⟨t, a1, a2, a3, a4, a5⟩ := (((Wo.leafV (ws := ws) nm1 m1 gb szb).hops nm2 gb szb v7).q).lams gb szb v4
    exact ⟨t, a1, a2, a3, by omega, a5⟩
  have hlc : c.length ≤ 73 := by rw [hc, List.length_append, List.length_append, len_rep, len_rep]; show v4 * 1 + (v7 * 2 + 1) ≤ 73; omega
  have tbb := (tb9.tm (Tm.same sa)).tm tmb
  have thb := (th9.tm (Tm.same sa)).tm tmb
  refine ev_lst (ds := gd [.app, .tip (.cst w2 (.to b b))]) (eva_cons (by show Ev _ _ _ (.tuple [.str (S wAPP)]); walk_at "d") (eva_cons (ev_var rfl thb) eva_nil)) (fun l3 Hc h3' sc dc => ?_)
  walk_at "v"
  have Pc' := Pb.same sc
  refine ⟨_, _, rfl, a, 49, rfl, rfl, by omega, by omega, Pc', fun v11 H11 hv11 P11 k11 => ?_⟩
  walk_at "v"
  have k0d := (k0b.then sc).tr k11
  refine l_rep (DLkb dc Pc' k11 (DL.ne_pot dc Pc' gd_ne_int)) (fun t3 He he' se de => ?_) (by rw [gd_len]; show 2 * v11 ≤ 100000; omega)
  rw [rep_gd] at de
  walk_at "v"
  refine w_lstN ?_
  walk_at "v"
  refine w_tupN ?_
  walk_at "v"
  have k0e := k0d.then se
  refine (hW.kb hP k0e hpa).at_ (i := 3) (w := w3) (by rw [ews]; rfl) (fun _ => ?_)
  walk_at "v"
  have tbe := ((tbb.tm (Tm.same sc)).tm (Kb.pot_tm Pc' k11)).tm (Tm.same se)
  refine t_new (ds := [.str (S wVAR), .str (S w3), b.d]) (.cons (.str _) (.cons (.str _) (.cons tbe .nil))) (fun vp2 Hf hvp2 sf tf => ?_)
  walk_at "v"
  refine l_new (ds := gd [.tip (.var w3 b)]) (.cons tf .nil) (fun l4 Hg hl4 sg dg => ?_)
  walk_at "v"
  refine l_cat ((de.same sf).same sg) dg (fun fp Hh hfp sh dfc => ?_) (by rw [gd_len, gd_len, len_rep]; show v11 * 2 + 1 ≤ 100000; omega)
  rw [← gd_app] at dfc
  have seh := ((se.tr sf).tr sg).tr sh
  obtain ⟨fc, hfc⟩ : ∃ fc : List G2, fc = (List.replicate v11 ([.app, .tip (.cst w2 (.to b b))] : List G2)).flatten ++ [.tip (.var w3 b)] := ⟨_, rfl⟩
  rw [← hfc] at dfc
  have wof : Wo b ws 49 fc := by rw [hfc]; exact ((Wo.leafV (ws := ws) nm3 m3 gb szb).hops nm2 gb szb v11).mono (by omega)
  have hlf : fc.length ≤ 97 := by rw [hfc, List.length_append, len_rep]; show v11 * 2 + 1 ≤ 97; omega
  have k0c := k0d.then seh
  have Pc := P11.same seh
  have tbc := ((tbb.tm (Tm.same sc)).tm (Kb.pot_tm Pc' k11)).tm (Tm.same seh)
  have dcc := (DLkb (db.same sc) Pc' k11 (DL.ne_pot (db.same sc) Pc' gd_ne_int)).same seh
  walk_at "v"
  refine w_disp1 (fun fa G1 hfa z1 e1 => ?_)
  walk_at "v"
  have k0x := k0c.then z1
  refine (hW.kb hP k0x hpa).at_ (i := 1) (w := w1) (by rw [ews]; rfl) (fun _ => ?_)
  walk_at "v"
  refine w_tupN ?_
  walk_at "v"
  refine n_T (fun tb G2 htb z2 e2 => ?_)
  have fa2 := z2 _ _ e1
  refine ⟨fa2, [(Sum.inr (S w1), V.ref tb)], rfl, Nat.le_add_left 1 14, ?_⟩
  obtain ⟨G3, hG3⟩ : ∃ G3, G3 = upd G2 fa (.dK (mergeK [] [(Sum.inr (S w1), V.ref tb)])) := ⟨_, rfl⟩
  rw [← hG3]
  have e3 : G3 fa = some (.dK (putK [] (Sum.inr (S w1)) (.ref tb))) := by rw [hG3]; exact upd_same
  have x3 : Ex fa G2 G3 := fun b hb => by rw [hG3]; exact upd_ne hb
  walk_at "v"
  have tm3 := Tm.exK fa2 x3
  have df3 : DL G3 fp (gd fc) := by
    obtain ⟨zs, e, t⟩ := (dfc.same z1).same z2
    exact ⟨zs, by rw [x3 fp (ne_lst_dk e fa2)]; exact e, t.tm tm3⟩
  have dc3 : DL G3 cp (gd c) := by
    obtain ⟨zs, e, t⟩ := (dcc.same z1).same z2
    exact ⟨zs, by rw [x3 cp (ne_lst_dk e fa2)]; exact e, t.tm tm3⟩
  have hfaa : fa ≠ a := Pot.ne Pc hfa
  have P3 := (((Pc.same z1).same z2).ex x3 hfaa.symm)
  have hfaH : H fa = none := fresh_kb Pc k0c hfa
  have k03 := ((k0c.then z1).then z2).ex hfaH x3
  have tb3 := ((tbc.tm (Tm.same z1)).tm (Tm.same z2)).tm tm3
  have FD3 : FD G3 (putK [] (Sum.inr (S w1)) (.ref tb)) 1 (setT (fun _ => none) w1 (b, fc)) :=
    FD.put (n := 0) ⟨Nat.le_refl _, fun p hp => absurd hp List.not_mem_nil, fun w => .inl ⟨rfl, rfl⟩⟩ (tm3 _ _ e2) tb3 df3
  obtain ⟨tv, hokv, hfov, htyv, hdv, hfv⟩ := wof
  obtain ⟨t, hok, hfo, hty, hdt, hfi⟩ := woc
  obtain ⟨kt, hkt⟩ := hty []
  have hsc := typed_scope hkt
  refine ⟨_, _, rfl, cp, fa, c, t, _, 1, 49, _, rfl, rfl, dc3, hok, hfo, fun r hr => (hfi r hr).1, by omega, by omega, hsc, e3, FD3, by omega, fb_one ⟨tv, hokv, hfov, htyv, hdv, hfv⟩ gb (by omega), fun G4 s4 => ?_⟩
  walk_at "v"
  have W4 := hW.kb hP (k03.then s4) hpa
  refine (hW.kb hP (k03.then s4) hpa).at_ (i := 1) (w := w1) (by rw [ews]; rfl) (fun _ => ?_)
  walk_at "v"
  refine ⟨_, rfl, p, ws, rfl, W4.1, W4.2.1, fun nw hnw hni => ?_⟩
  walk_at "v"
  exact ⟨_, _, _, _, _, rfl, cp, fp, c, fc, t, tv, w1, nw, b, rfl, rfl, tb3.tm (Tm.same s4), rfl, rfl, dc3.same s4, df3.same s4, hok, hfo, hokv, hfov, fun r hr => (hfi r hr).1, fun r hr => (hfv r hr).1, by omega, by omega, by omega, hsc, typed_scope (htyv []), nm1, hnw, gb, fine_notIn hok hfo (fun r hr => (hfi r hr).2) hni, fun G5 s5 => hQ G5 ((P3.same s4).same s5) ((k03.then s4).then s5)⟩
end
end K01

namespace K01
open PySem PySem.Spec PyProof.Rows L2 SX K02
local macro_rules | `(tactic| walk_at "w1") => `(tactic| (first
  | with_reducible refine w_seq ?_ | with_reducible refine w_asgN ?_ | with_reducible refine w_c ?_
  | ((with_reducible refine' w_var ?wv ?_); (case wv => exact rfl))
  | with_reducible refine w_op ?_ | with_reducible refine w_un ?_ | with_reducible refine w_next ?_ | with_reducible refine w_brk ?_ | with_reducible refine w_cnt ?_
  | with_reducible refine w_ifS ?_ | with_reducible refine w_if ?_ | with_reducible refine w_test ?_ | with_reducible refine w_tB ?_ | with_reducible refine w_bl ?_ | with_reducible refine w_blI ?_
  | with_reducible refine w_and ?_ | with_reducible refine w_or ?_ | with_reducible refine w_not ?_ | with_reducible refine w_andV ?_ | with_reducible refine w_orV ?_ | with_reducible refine w_notV ?_
  | with_reducible refine w_nil ?_ | with_reducible refine w_cons ?_ | with_reducible refine w_cb ?_ | with_reducible refine w_call ?_ | with_reducible refine w_callS ?_ | with_reducible refine w_chain ?_
  | with_reducible refine w_tupN ?_ | with_reducible refine w_lstN ?_ | with_reducible refine w_sl ?_ | with_reducible refine w_noPart ?_ | with_reducible refine w_part ?_ | with_reducible refine w_partI ?_
  | with_reducible refine w_ret ?_ | with_reducible refine w_retN ?_ | with_reducible refine w_drop ?_ | with_reducible refine w_asg ?_ | with_reducible refine w_gSub ?_
  | ((with_reducible refine' w_aug ?wv ?_); (case wv => exact rfl)) | with_reducible refine w_ipI ?_
  | with_reducible refine w_addI ?_ | with_reducible refine w_subI ?_ | with_reducible refine w_ltI ?_ | with_reducible refine w_leI ?_ | with_reducible refine w_gtI ?_ | with_reducible refine w_geI ?_
  | with_reducible refine w_eqI ?_ | with_reducible refine w_neI ?_ | with_reducible refine w_eqT ?_ | with_reducible refine w_neT ?_ | with_reducible refine w_inS ?_ | with_reducible refine w_ninS ?_
  | with_reducible refine w_absI ?_ | with_reducible refine w_intI ?_ | with_reducible refine w_maxI ?_ | with_reducible refine w_minI ?_
  | with_reducible refine w_for ?_ | with_reducible refine w_iR1 ?_ | with_reducible refine w_iR2 ?_ | with_reducible refine w_iStr ?_ | with_reducible refine w_strI ?_ | with_reducible refine w_iList ?_ | with_reducible refine w_iTup ?_
  | with_reducible refine w_bm ?_ | with_reducible refine w_bm0 ?_ | with_reducible refine w_t ?_ | with_reducible refine w_f ?_ | with_reducible refine w_nt ?_ | with_reducible refine w_nx ?_ | with_reducible refine w_rt ?_ | with_reducible refine w_bk ?_ | with_reducible refine w_ct ?_ | with_reducible refine w_nf ?_ | with_reducible refine w_lc ?_ | with_reducible refine w_yes ?_ | with_reducible refine w_neg ?_ | with_reducible refine w_intB ?_ | with_reducible refine w_fld ?_ | with_reducible refine w_setf ?_ | with_reducible refine w_faug ?_ | with_reducible refine w_meth ?_ | with_reducible refine w_bmS ?_ | with_reducible refine w_start ?_ | with_reducible refine w_revL ?_ | with_reducible refine w_iR3 ?_))
local macro_rules | `(tactic| walk_at "w") => `(tactic| (repeat (first | walk_at "w1" | dsimp (config := { proj := false }) only [List.set_cons_zero, List.set_cons_succ])))
section
variable {w : World} {K : PySem.W.Frag} {mg : Str → Option Value} {base : Heap}
local macro_rules | `(tactic| walk_at "v1") => `(tactic| (first
  | with_reducible refine w_seq ?_ | with_reducible refine w_asgN ?_ | with_reducible refine w_c ?_
  | ((with_reducible refine' w_var ?wv ?_); (case wv => exact rfl))
  | with_reducible refine w_op ?_ | with_reducible refine w_un ?_ | with_reducible refine w_next ?_ | with_reducible refine w_brk ?_ | with_reducible refine w_cnt ?_
  | with_reducible refine w_ifS ?_ | with_reducible refine w_if ?_ | with_reducible refine w_test ?_ | with_reducible refine w_tB ?_ | with_reducible refine w_bl ?_ | with_reducible refine w_blI ?_
  | with_reducible refine w_and ?_ | with_reducible refine w_or ?_ | with_reducible refine w_not ?_ | with_reducible refine w_andV ?_ | with_reducible refine w_orV ?_ | with_reducible refine w_notV ?_
  | with_reducible refine w_nil ?_ | with_reducible refine w_cons ?_ | with_reducible refine w_cb ?_ | with_reducible refine w_call ?_ | with_reducible refine w_callS ?_ | with_reducible refine w_chain ?_
  | with_reducible refine w_sl ?_ | with_reducible refine w_noPart ?_ | with_reducible refine w_part ?_ | with_reducible refine w_partI ?_
  | with_reducible refine w_ret ?_ | with_reducible refine w_retN ?_ | with_reducible refine w_drop ?_ | with_reducible refine w_asg ?_ | with_reducible refine w_gSub ?_
  | ((with_reducible refine' w_aug ?wv ?_); (case wv => exact rfl)) | with_reducible refine w_ipI ?_
  | with_reducible refine w_addI ?_ | with_reducible refine w_subI ?_ | with_reducible refine w_ltI ?_ | with_reducible refine w_leI ?_ | with_reducible refine w_gtI ?_ | with_reducible refine w_geI ?_
  | with_reducible refine w_eqI ?_ | with_reducible refine w_neI ?_ | with_reducible refine w_eqT ?_ | with_reducible refine w_neT ?_ | with_reducible refine w_inS ?_ | with_reducible refine w_ninS ?_
  | with_reducible refine w_absI ?_ | with_reducible refine w_intI ?_ | with_reducible refine w_maxI ?_ | with_reducible refine w_minI ?_
  | with_reducible refine w_for ?_ | with_reducible refine w_iR1 ?_ | with_reducible refine w_iR2 ?_ | with_reducible refine w_iStr ?_ | with_reducible refine w_strI ?_ | with_reducible refine w_iList ?_ | with_reducible refine w_iTup ?_
  | with_reducible refine w_bm ?_ | with_reducible refine w_bm0 ?_ | with_reducible refine w_t ?_ | with_reducible refine w_f ?_ | with_reducible refine w_nt ?_ | with_reducible refine w_nx ?_ | with_reducible refine w_rt ?_ | with_reducible refine w_bk ?_ | with_reducible refine w_ct ?_ | with_reducible refine w_nf ?_ | with_reducible refine w_lc ?_ | with_reducible refine w_yes ?_ | with_reducible refine w_neg ?_ | with_reducible refine w_intB ?_ | with_reducible refine w_fld ?_ | with_reducible refine w_setf ?_ | with_reducible refine w_faug ?_ | with_reducible refine w_meth ?_ | with_reducible refine w_bmS ?_ | with_reducible refine w_start ?_ | with_reducible refine w_revL ?_ | with_reducible refine w_iR3 ?_))
local macro_rules | `(tactic| walk_at "v") => `(tactic| (repeat (first | walk_at "v1" | dsimp (config := { proj := false }) only [List.set_cons_zero, List.set_cons_succ])))
local macro_rules | `(tactic| walk_at "d") => `(tactic| (repeat (first | exact eva_nil | refine eva_cons ?_ ?_ | exact ev_str | exact ev_int | exact ev_neg | refine ev_tup ?_ | (refine ev_var rfl ?_; assumption))))


def sp_law (K : PySem.W.Frag) : Sp := sp1 fun x H Q _ => ∃ (a : Addr) (ns : List Int), x = .ref a ∧ SqL K H a (ns.map V.int) ∧ ns.length ≤ 63 ∧ ∀ H', Q (.bl true) H'
theorem law_ok (T : Txt w K mg) {fd : FuncData} (F : Fn_law K fd) (c_law_pot : CalX P w K mg base CX0 1 "_law_pot" (sp_law_pot K)) (c_law_words : CalX P w K mg base CX0 3 "_law_words" sp_law_words) (c_law_pool : CalX P w K mg base CX0 2 "_law_pool" sp_law_pool) (c_law_ask_builders : CalG P w K mg base CX0 2 "_law_ask_builders" sp_law_ask_builders) (c_law_take : CalX P w K mg base CX0 1 "_law_take" sp_law_take) (c_law_ask_wide : CalG P w K mg base CX0 135 "_law_ask_wide" sp_law_ask_wide) (c_law_ask_deep : CalG P w K mg base CX0 135 "_law_ask_deep" sp_law_ask_deep) (c_law_general : CalG P w K mg base CX0 155 "_law_general" sp_law_general) : FnG P w K mg base CX0 156 (He.ga K "law") fd ["script"] (sp_law K) := by
  refine F.okG sc_law (fun _ _ _ _ h => sp1_len h) (fun cdv A outer s H vs Q E hr h => ?_)
  obtain ⟨x0, rfl, h⟩ := h
  refine ⟨_, PSs.nox (pss_cons (ps_for PassesOwn.never rfl (pi_range1 (by rfl) T.f_range (pa_cons (pe_callB (call_maxI rfl) (by rfl) T.f_max (by decide +kernel) (pa_cons pe_int (pa_cons (pe_callB (call_minI rfl) (by rfl) T.f_min (by decide +kernel) (pa_cons pe_int (pa_cons (pe_callB call_lenQ (by rfl) T.f_len PySem.boot_len (pa_cons (pv 0) pa_nil)) pa_nil))) pa_nil))) pa_nil)) (pg_name (i := 1) sc_law.nd rfl (Or.inl rfl))
    (pss_cons (ps_set (i := 2) sc_law.nd rfl (Or.inl rfl) (pe_cx c_law_pot hr.toRoom (by decide) rfl pass0 (pa_cons (pv 0) (pa_cons (pv 1) pa_nil))))
    (pss_cons (ps_set (i := 3) sc_law.nd rfl (Or.inl rfl) (pe_cx c_law_words hr.toRoom (by decide) rfl pass0 (pa_cons (pv 2) pa_nil)))
    (pss_cons (ps_set (i := 4) sc_law.nd rfl (Or.inl rfl) (pe_cx c_law_pool hr.toRoom (by decide) rfl pass0 (pa_cons (pv 2) (pa_cons (pv 3) pa_nil))))
    (pss_cons (ps_if (pt_not (pt_val (pe_cg c_law_ask_builders hr (by decide) rfl pass0 (pa_cons (pv 2) (pa_cons (pv 3) (pa_cons (pv 4) pa_nil))))))
    (pss_one (ps_ret pe_bl))
    pss_nil)
    (pss_cons (ps_set (i := 5) sc_law.nd rfl (Or.inl rfl) (pe_cx c_law_take hr.toRoom (by decide) rfl pass0 (pa_cons (pv 2) (pa_cons pe_int pa_nil))))
    (pss_cons (ps_if (PW.pt (pw_and (pt_cmpR op_eq (pv 5) pe_int (nomark _)) (pw_and1 (pt_not (pt_val (pe_cg c_law_ask_wide hr (by decide) rfl pass0 (pa_cons (pv 2) (pa_cons (pv 3) pa_nil))))))))
    (pss_one (ps_ret pe_bl))
    pss_nil)
    (pss_cons (ps_if (PW.pt (pw_and (pt_cmpR op_eq (pv 5) pe_int (nomark _)) (pw_and1 (pt_not (pt_val (pe_cg c_law_ask_deep hr (by decide) rfl pass0 (pa_cons (pv 2) (pa_cons (pv 3) pa_nil))))))))
    (pss_one (ps_ret pe_bl))
    pss_nil)
    (pss_one (ps_if (PW.pt (pw_and (pt_cmpR op_ltI (pv 5) pe_int (nomark _)) (pw_and1 (pt_not (pt_val (pe_cg c_law_general hr (by decide) rfl pass0 (pa_cons (pv 2) (pa_cons (pv 3) (pa_cons (pv 4) pa_nil)))))))))
    (pss_one (ps_ret pe_bl))
    pss_nil))))))))))
    (pss_one (ps_ret pe_bl))), ?_⟩
  rw [show start ["script", "k", "pot", "words", "pool", "way"] [x0] = [some x0, none, none, none, none, none] from rfl]
  obtain ⟨a, ns, rfl, hS, hn, hQ⟩ := h
  try dsimp only [cxOf]
  walk_at "v"
  refine w_lenL hS ?_
  rw [List.length_map]
  walk_at "v"
  obtain ⟨M, hM, hM1, hM2⟩ : ∃ M : Nat, (if (if (ns.length : Int) < 4 then (ns.length : Int) else 4) > 1 then (if (ns.length : Int) < 4 then (ns.length : Int) else 4) else 1) = (M : Int) ∧ 1 ≤ M ∧ M ≤ 4 := by
    by_cases h1 : (ns.length : Int) < 4
    · rw [if_pos h1]
      by_cases h2 : (ns.length : Int) > 1
      · rw [if_pos h2]; exact ⟨ns.length, rfl, by omega, by omega⟩
      · rw [if_neg h2]; exact ⟨1, rfl, by omega, by omega⟩
    · rw [if_neg h1]; exact ⟨4, rfl, by omega, by omega⟩
  rw [hM]
  refine w_rg1 (by omega) (by omega) ?_
  rw [show ((M : Int)).toNat = M from Int.toNat_natCast _]
  refine for_range (fun i σ H' => Same H H' ∧ ∃ (v1 v2 v3 v4 v5 : Option V), σ = [some (.ref a), v1, v2, v3, v4, v5]) ⟨Same.refl' _, _, _, _, _, _, rfl⟩ ?_ ?_
  · rintro i σ G hi ⟨s, v1, v2, v3, v4, v5, rfl⟩
    have hi : i < M := hi
    dsimp only [gName]
    walk_at "v"
    rw [show (0 : Int) + (i : Int) = (i : Int) by omega]
    refine ⟨_, _, rfl, a, ns, i, rfl, rfl, hS.sm s, hn, by omega, fun p G1 hp1 s1 P1 => ?_⟩
    walk_at "v"
    refine ⟨_, rfl, p, rfl, P1, fun pw G2 hw2 W2 P2 k2 => ?_⟩
    walk_at "v"
    obtain ⟨ws, W2⟩ := W2
    have W2 : NmW ws G2 pw := W2
    have hpw : pw ≠ p := W2.ne P2
    refine ⟨_, _, rfl, p, pw, rfl, rfl, P2, W2.nm, fun q G3 hq3 L3 P3 k3 => ?_⟩
    have hqp : q ≠ p := L3.ne P3 (by omega)
    walk_at "v"
    have W3 := W2.kb P2 k3 hpw
    refine ⟨_, _, _, rfl, p, pw, q, ws, rfl, rfl, rfl, P3, W3, L3, fun G4 P4 k4 => ?_⟩
    walk_at "v"
    refine ⟨_, _, rfl, p, 4, rfl, rfl, by omega, by omega, P4, fun v5 G5 hv5 P5 k5 => ?_⟩
    walk_at "v"
    have k35 := k4.tr k5
    have W5 := W3.kb P3 k35 hpw
    have L5 := L3.kb P3 k35 hqp
    have k25 := (k2.tr k3).tr k35
    have fin : ∀ {G' : Hp} {u1 u2 u3 u4 u5 : Option V}, Kb p G5 G' → Same H G' ∧ ∃ (v1 v2 v3 v4 v5 : Option V), [some (.ref a), u1, u2, u3, u4, u5] = [some (.ref a), v1, v2, v3, v4, v5] := fun {G' u1 u2 u3 u4 u5} k =>
      ⟨Same.kb (s.tr s1) (s.fresh hp1) (k25.tr k), u1, u2, u3, u4, u5, rfl⟩
    refine w_dec (fun h2 => ?_) (fun h2 => ?_)
    · walk_at "v"
      refine ⟨_, _, rfl, p, pw, ws, rfl, rfl, P5, W5, fun G6 P6 k6 => ?_⟩
      walk_at "v"
      rw [decide_eq_false (show ¬ (v5 : Int) = 3 by omega)]
      walk_at "v"
      rw [decide_eq_false (show ¬ (v5 : Int) < 2 by omega)]
      walk_at "v"
      exact fin k6
    walk_at "v"
    refine w_dec (fun h3 => ?_) (fun h3 => ?_)
    · walk_at "v"
      refine ⟨_, _, rfl, p, pw, ws, rfl, rfl, P5, W5, fun G6 P6 k6 => ?_⟩
      walk_at "v"
      rw [decide_eq_false (show ¬ (v5 : Int) < 2 by omega)]
      walk_at "v"
      exact fin k6
    walk_at "v"
    refine w_dec (fun h4 => ?_) (fun h4 => ?_)
    · walk_at "v"
      refine ⟨_, _, _, rfl, p, pw, q, ws, rfl, rfl, rfl, P5, W5, L5, fun G6 P6 k6 => ?_⟩
      walk_at "v"
      exact fin k6
    walk_at "v"
    exact fin (Kb.refl _ _)
  · rintro σ G ⟨s, v1, v2, v3, v4, v5, rfl⟩
    walk_at "v"
    exact hQ G
end
end K01

namespace K01
open PySem PySem.Spec PyProof.Rows L2 SX K02
local macro_rules | `(tactic| walk_at "w1") => `(tactic| (first
  | with_reducible refine w_seq ?_ | with_reducible refine w_asgN ?_ | with_reducible refine w_c ?_
  | ((with_reducible refine' w_var ?wv ?_); (case wv => exact rfl))
  | with_reducible refine w_op ?_ | with_reducible refine w_un ?_ | with_reducible refine w_next ?_ | with_reducible refine w_brk ?_ | with_reducible refine w_cnt ?_
  | with_reducible refine w_ifS ?_ | with_reducible refine w_if ?_ | with_reducible refine w_test ?_ | with_reducible refine w_tB ?_ | with_reducible refine w_bl ?_ | with_reducible refine w_blI ?_
  | with_reducible refine w_and ?_ | with_reducible refine w_or ?_ | with_reducible refine w_not ?_ | with_reducible refine w_andV ?_ | with_reducible refine w_orV ?_ | with_reducible refine w_notV ?_
  | with_reducible refine w_nil ?_ | with_reducible refine w_cons ?_ | with_reducible refine w_cb ?_ | with_reducible refine w_call ?_ | with_reducible refine w_callS ?_ | with_reducible refine w_chain ?_
  | with_reducible refine w_tupN ?_ | with_reducible refine w_lstN ?_ | with_reducible refine w_sl ?_ | with_reducible refine w_noPart ?_ | with_reducible refine w_part ?_ | with_reducible refine w_partI ?_
  | with_reducible refine w_ret ?_ | with_reducible refine w_retN ?_ | with_reducible refine w_drop ?_ | with_reducible refine w_asg ?_ | with_reducible refine w_gSub ?_
  | ((with_reducible refine' w_aug ?wv ?_); (case wv => exact rfl)) | with_reducible refine w_ipI ?_
  | with_reducible refine w_addI ?_ | with_reducible refine w_subI ?_ | with_reducible refine w_ltI ?_ | with_reducible refine w_leI ?_ | with_reducible refine w_gtI ?_ | with_reducible refine w_geI ?_
  | with_reducible refine w_eqI ?_ | with_reducible refine w_neI ?_ | with_reducible refine w_eqT ?_ | with_reducible refine w_neT ?_ | with_reducible refine w_inS ?_ | with_reducible refine w_ninS ?_
  | with_reducible refine w_absI ?_ | with_reducible refine w_intI ?_ | with_reducible refine w_maxI ?_ | with_reducible refine w_minI ?_
  | with_reducible refine w_for ?_ | with_reducible refine w_iR1 ?_ | with_reducible refine w_iR2 ?_ | with_reducible refine w_iStr ?_ | with_reducible refine w_strI ?_ | with_reducible refine w_iList ?_ | with_reducible refine w_iTup ?_
  | with_reducible refine w_bm ?_ | with_reducible refine w_bm0 ?_ | with_reducible refine w_t ?_ | with_reducible refine w_f ?_ | with_reducible refine w_nt ?_ | with_reducible refine w_nx ?_ | with_reducible refine w_rt ?_ | with_reducible refine w_bk ?_ | with_reducible refine w_ct ?_ | with_reducible refine w_nf ?_ | with_reducible refine w_lc ?_ | with_reducible refine w_yes ?_ | with_reducible refine w_neg ?_ | with_reducible refine w_intB ?_ | with_reducible refine w_fld ?_ | with_reducible refine w_setf ?_ | with_reducible refine w_faug ?_ | with_reducible refine w_meth ?_ | with_reducible refine w_bmS ?_ | with_reducible refine w_start ?_ | with_reducible refine w_revL ?_ | with_reducible refine w_iR3 ?_))
local macro_rules | `(tactic| walk_at "w") => `(tactic| (repeat (first | walk_at "w1" | dsimp (config := { proj := false }) only [List.set_cons_zero, List.set_cons_succ])))
section
variable {w : World} {K : PySem.W.Frag} {mg : Str → Option Value} {base : Heap}
end
theorem facts {w : World} {K : PySem.W.Frag} {h : Heap} {mg : Str → Option Value} {f : Addr} (X : K.In h) (G : h.Ns mainGlobals mg) (hfa : mg ("law" : Str) = some (.ref f)) (c : HallHt.SaysH fa fn hs ex ts w K) :
    ∃ fd : FuncData, (∀ (s : Shared) (v : Value), BindsTo s fd ⟨[v], []⟩ [("script", v)]) ∧ ∀ base : Heap, K.In base → base.Ns mainGlobals mg → FnG P w K mg base CX0 156 f fd ["script"] (sp_law K) := by
  have T := txt_of X G c
  obtain ⟨fd_law_pot, F_law_pot⟩ := c.d.def_ 18 (d := dd "_law_pot" 25) rfl
  have m_law_pot := He.glo_ok X G (c.d.fact 18 (f := .glo "_law_pot") rfl)
  obtain ⟨fd_law_take, F_law_take⟩ := c.d.def_ 19 (d := dd "_law_take" 26) rfl
  have m_law_take := He.glo_ok X G (c.d.fact 19 (f := .glo "_law_take") rfl)
  obtain ⟨fd_law_mended, F_law_mended⟩ := c.d.def_ 20 (d := dd "_law_mended" 27) rfl
  have m_law_mended := He.glo_ok X G (c.d.fact 20 (f := .glo "_law_mended") rfl)
  obtain ⟨fd_law_name, F_law_name⟩ := c.d.def_ 21 (d := dd "_law_name" 28) rfl
  have m_law_name := He.glo_ok X G (c.d.fact 21 (f := .glo "_law_name") rfl)
  obtain ⟨fd_law_near, F_law_near⟩ := c.d.def_ 22 (d := dd "_law_near" 29) rfl
  have m_law_near := He.glo_ok X G (c.d.fact 22 (f := .glo "_law_near") rfl)
  obtain ⟨fd_law_words, F_law_words⟩ := c.d.def_ 23 (d := dd "_law_words" 30) rfl
  have m_law_words := He.glo_ok X G (c.d.fact 23 (f := .glo "_law_words") rfl)
  obtain ⟨fd_law_pool, F_law_pool⟩ := c.d.def_ 25 (d := dd "_law_pool" 32) rfl
  have m_law_pool := He.glo_ok X G (c.d.fact 25 (f := .glo "_law_pool") rfl)
  obtain ⟨fd_app, F_app⟩ := c.d.def_ 3 (d := dd "app" 9) rfl
  have m_app := He.glo_ok X G (c.d.fact 3 (f := .glo "app") rfl)
  obtain ⟨fd_law_same, F_law_same⟩ := c.d.def_ 24 (d := dd "_law_same" 31) rfl
  have m_law_same := He.glo_ok X G (c.d.fact 24 (f := .glo "_law_same") rfl)
  obtain ⟨fd_const, F_const⟩ := c.d.def_ 2 (d := dd "const" 8) rfl
  have m_const := He.glo_ok X G (c.d.fact 2 (f := .glo "const") rfl)
  obtain ⟨fd_var, F_var⟩ := c.d.def_ 1 (d := dd "var" 7) rfl
  have m_var := He.glo_ok X G (c.d.fact 1 (f := .glo "var") rfl)
  obtain ⟨fd_law_ask_builders, F_law_ask_builders⟩ := c.d.def_ 38 (d := dd "_law_ask_builders" 45) rfl
  have m_law_ask_builders := He.glo_ok X G (c.d.fact 38 (f := .glo "_law_ask_builders") rfl)
  obtain ⟨fd_law_wide, F_law_wide⟩ := c.d.def_ 45 (d := dd "_law_wide" 52) rfl
  have m_law_wide := He.glo_ok X G (c.d.fact 45 (f := .glo "_law_wide") rfl)
  obtain ⟨fd_law_built, F_law_built⟩ := c.d.def_ 29 (d := dd "_law_built" 36) rfl
  have m_law_built := He.glo_ok X G (c.d.fact 29 (f := .glo "_law_built") rfl)
  obtain ⟨fd_parts, F_parts⟩ := c.d.def_ 6 (d := dd "_parts" 12) rfl
  have m_parts := He.glo_ok X G (c.d.fact 6 (f := .glo "_parts") rfl)
  obtain ⟨fd_pairs_of, F_pairs_of⟩ := c.d.def_ 10 (d := dd "_pairs_of" 16) rfl
  have m_pairs_of := He.glo_ok X G (c.d.fact 10 (f := .glo "_pairs_of") rfl)
  obtain ⟨fd_free_vars, F_free_vars⟩ := c.d.def_ 8 (d := dd "free_vars" 14) rfl
  have m_free_vars := He.glo_ok X G (c.d.fact 8 (f := .glo "free_vars") rfl)
  obtain ⟨fd_measure, F_measure⟩ := c.d.def_ 5 (d := dd "measure" 11) rfl
  have m_measure := He.glo_ok X G (c.d.fact 5 (f := .glo "measure") rfl)
  obtain ⟨fd_put_terms, F_put_terms⟩ := c.d.def_ 16 (d := dd "put_terms" 22) rfl
  have m_put_terms := He.glo_ok X G (c.d.fact 16 (f := .glo "put_terms") rfl)
  obtain ⟨fd_law_told_put, F_law_told_put⟩ := c.d.def_ 35 (d := dd "_law_told_put" 42) rfl
  have m_law_told_put := He.glo_ok X G (c.d.fact 35 (f := .glo "_law_told_put") rfl)
  obtain ⟨fd_law_right, F_law_right⟩ := c.d.def_ 37 (d := dd "_law_right" 44) rfl
  have m_law_right := He.glo_ok X G (c.d.fact 37 (f := .glo "_law_right") rfl)
  obtain ⟨fd_law_put, F_law_put⟩ := c.d.def_ 33 (d := dd "_law_put" 40) rfl
  have m_law_put := He.glo_ok X G (c.d.fact 33 (f := .glo "_law_put") rfl)
  obtain ⟨fd_law_ask_put, F_law_ask_put⟩ := c.d.def_ 41 (d := dd "_law_ask_put" 48) rfl
  have m_law_ask_put := He.glo_ok X G (c.d.fact 41 (f := .glo "_law_ask_put") rfl)
  obtain ⟨fd_law_new, F_law_new⟩ := c.d.def_ 39 (d := dd "_law_new" 46) rfl
  have m_law_new := He.glo_ok X G (c.d.fact 39 (f := .glo "_law_new") rfl)
  obtain ⟨fd_law_levels, F_law_levels⟩ := c.d.def_ 28 (d := dd "_law_levels" 35) rfl
  have m_law_levels := He.glo_ok X G (c.d.fact 28 (f := .glo "_law_levels") rfl)
  obtain ⟨fd_law_abstracted, F_law_abstracted⟩ := c.d.def_ 31 (d := dd "_law_abstracted" 38) rfl
  have m_law_abstracted := He.glo_ok X G (c.d.fact 31 (f := .glo "_law_abstracted") rfl)
  obtain ⟨fd_abstract, F_abstract⟩ := c.d.def_ 12 (d := dd "abstract" 18) rfl
  have m_abstract := He.glo_ok X G (c.d.fact 12 (f := .glo "abstract") rfl)
  obtain ⟨fd_lam, F_lam⟩ := c.d.def_ 4 (d := dd "lam" 10) rfl
  have m_lam := He.glo_ok X G (c.d.fact 4 (f := .glo "lam") rfl)
  obtain ⟨fd_instantiate, F_instantiate⟩ := c.d.def_ 14 (d := dd "instantiate" 20) rfl
  have m_instantiate := He.glo_ok X G (c.d.fact 14 (f := .glo "instantiate") rfl)
  obtain ⟨fd_law_told_instance, F_law_told_instance⟩ := c.d.def_ 36 (d := dd "_law_told_instance" 43) rfl
  have m_law_told_instance := He.glo_ok X G (c.d.fact 36 (f := .glo "_law_told_instance") rfl)
  obtain ⟨fd_law_instantiated, F_law_instantiated⟩ := c.d.def_ 32 (d := dd "_law_instantiated" 39) rfl
  have m_law_instantiated := He.glo_ok X G (c.d.fact 32 (f := .glo "_law_instantiated") rfl)
  obtain ⟨fd_law_ask_abstract, F_law_ask_abstract⟩ := c.d.def_ 40 (d := dd "_law_ask_abstract" 47) rfl
  have m_law_ask_abstract := He.glo_ok X G (c.d.fact 40 (f := .glo "_law_ask_abstract") rfl)
  obtain ⟨fd_law_ask_wide, F_law_ask_wide⟩ := c.d.def_ 46 (d := dd "_law_ask_wide" 53) rfl
  have m_law_ask_wide := He.glo_ok X G (c.d.fact 46 (f := .glo "_law_ask_wide") rfl)
  obtain ⟨fd_law_ask_deep, F_law_ask_deep⟩ := c.d.def_ 47 (d := dd "_law_ask_deep" 54) rfl
  have m_law_ask_deep := He.glo_ok X G (c.d.fact 47 (f := .glo "_law_ask_deep") rfl)
  obtain ⟨fd_law_tip, F_law_tip⟩ := c.d.def_ 26 (d := dd "_law_tip" 33) rfl
  have m_law_tip := He.glo_ok X G (c.d.fact 26 (f := .glo "_law_tip") rfl)
  obtain ⟨fd_law_grown, F_law_grown⟩ := c.d.def_ 27 (d := dd "_law_grown" 34) rfl
  have m_law_grown := He.glo_ok X G (c.d.fact 27 (f := .glo "_law_grown") rfl)
  obtain ⟨fd_term_consts, F_term_consts⟩ := c.d.def_ 9 (d := dd "term_consts" 15) rfl
  have m_term_consts := He.glo_ok X G (c.d.fact 9 (f := .glo "term_consts") rfl)
  obtain ⟨fd_law_once, F_law_once⟩ := c.d.def_ 30 (d := dd "_law_once" 37) rfl
  have m_law_once := He.glo_ok X G (c.d.fact 30 (f := .glo "_law_once") rfl)
  obtain ⟨fd_law_fills, F_law_fills⟩ := c.d.def_ 43 (d := dd "_law_fills" 50) rfl
  have m_law_fills := He.glo_ok X G (c.d.fact 43 (f := .glo "_law_fills") rfl)
  obtain ⟨fd_law_kind_put, F_law_kind_put⟩ := c.d.def_ 34 (d := dd "_law_kind_put" 41) rfl
  have m_law_kind_put := He.glo_ok X G (c.d.fact 34 (f := .glo "_law_kind_put") rfl)
  obtain ⟨fd_law_ask_kinds, F_law_ask_kinds⟩ := c.d.def_ 42 (d := dd "_law_ask_kinds" 49) rfl
  have m_law_ask_kinds := He.glo_ok X G (c.d.fact 42 (f := .glo "_law_ask_kinds") rfl)
  obtain ⟨fd_law_general, F_law_general⟩ := c.d.def_ 44 (d := dd "_law_general" 51) rfl
  have m_law_general := He.glo_ok X G (c.d.fact 44 (f := .glo "_law_general") rfl)
  obtain ⟨fd_abstracted, F_abstracted⟩ := c.d.def_ 11 (d := dd "_abstracted" 17) rfl
  have m_abstracted := He.glo_ok X G (c.d.fact 11 (f := .glo "_abstracted") rfl)
  obtain ⟨fd_instantiated, F_instantiated⟩ := c.d.def_ 13 (d := dd "_instantiated" 19) rfl
  have m_instantiated := He.glo_ok X G (c.d.fact 13 (f := .glo "_instantiated") rfl)
  obtain ⟨fd_kind_within, F_kind_within⟩ := c.d.def_ 7 (d := dd "kind_within" 13) rfl
  have m_kind_within := He.glo_ok X G (c.d.fact 7 (f := .glo "kind_within") rfl)
  obtain ⟨fd_put_kind, F_put_kind⟩ := c.d.def_ 0 (d := dd "put_kind" 4) rfl
  have m_put_kind := He.glo_ok X G (c.d.fact 0 (f := .glo "put_kind") rfl)
  obtain ⟨fd_put_kinds, F_put_kinds⟩ := c.d.def_ 17 (d := dd "put_kinds" 23) rfl
  have m_put_kinds := He.glo_ok X G (c.d.fact 17 (f := .glo "put_kinds") rfl)
  obtain ⟨fd_replaced, F_replaced⟩ := c.d.def_ 15 (d := dd "_replaced" 21) rfl
  have m_replaced := He.glo_ok X G (c.d.fact 15 (f := .glo "_replaced") rfl)
  obtain ⟨fd_law, F_law⟩ := c.d.def_ 48 (d := dd "law" 55) rfl
  have m_law := He.glo_ok X G (c.d.fact 48 (f := .glo "law") rfl)
  have e := hfa.symm.trans m_law
  cases e
  have b := FunD.bindsA (ps := ["script"]) F_law fun _ _ _ _ _ _ us hl => match us, hl with | [_], _ => rfl
  refine ⟨fd_law, fun s v => b s [v] rfl, fun base _ _ => ?_⟩
  have H_c_law_pot := ok_law_pot (w := w) (base := base) T F_law_pot m_law_pot 
  have H_c_law_take := ok_law_take (w := w) (base := base) T F_law_take m_law_take 
  have H_c_law_mended := ok_law_mended (w := w) (base := base) T F_law_mended m_law_mended 
  have H_c_law_name := ok_law_name (w := w) (base := base) T F_law_name m_law_name H_c_law_take H_c_law_mended
  have H_c_law_near := ok_law_near (w := w) (base := base) T F_law_near m_law_near H_c_law_take H_c_law_mended
  have H_c_law_words := ok_law_words (w := w) (base := base) T F_law_words m_law_words H_c_law_name H_c_law_near
  have H_c_law_pool := ok_law_pool (w := w) (base := base) T F_law_pool m_law_pool H_c_law_take
  have H_c_app := ok_app (w := w) (base := base) T F_app m_app 
  have H_c_law_same := ok_law_same (w := w) (base := base) T F_law_same m_law_same 
  have H_c_const := ok_const (w := w) (base := base) T F_const m_const 
  have H_c_var := ok_var (w := w) (base := base) T F_var m_var 
  have H_c_law_ask_builders := ok_law_ask_builders (w := w) (base := base) T F_law_ask_builders m_law_ask_builders H_c_law_take H_c_app H_c_law_same H_c_const H_c_var
  have H_c_law_wide := ok_law_wide (w := w) (base := base) T F_law_wide m_law_wide H_c_law_take
  have H_c_law_built := ok_law_built (w := w) (base := base) T F_law_built m_law_built 
  have H_c_parts := ok_parts (w := w) (base := base) T F_parts m_parts 
  have H_c_pairs_of := ok_pairs_of (w := w) (base := base) T F_pairs_of m_pairs_of H_c_parts
  have H_c_free_vars := ok_free_vars (w := w) (base := base) T F_free_vars m_free_vars H_c_pairs_of
  have H_c_measure := ok_measure (w := w) (base := base) T F_measure m_measure 
  have H_c_kind_within := kw_all (w := w) (base := base) T F_kind_within m_kind_within 130
  have H_c_replaced := rep_all (w := w) (base := base) T F_replaced m_replaced 130
  have H_c_put_terms := ok_put_terms (w := w) (base := base) T F_put_terms m_put_terms H_c_free_vars H_c_measure H_c_parts H_c_kind_within H_c_replaced
  have H_c_law_told_put := ok_law_told_put (w := w) (base := base) T F_law_told_put m_law_told_put H_c_put_terms
  have H_c_law_right := ok_law_right (w := w) (base := base) T F_law_right m_law_right H_c_law_same H_c_law_built
  have H_c_law_put := ok_law_put (w := w) (base := base) T F_law_put m_law_put 
  have H_c_law_ask_put := ok_law_ask_put (w := w) (base := base) T F_law_ask_put m_law_ask_put H_c_law_built H_c_law_told_put H_c_law_right H_c_law_put
  have H_c_law_new := ok_law_new (w := w) (base := base) T F_law_new m_law_new 
  have H_c_law_levels := ok_law_levels (w := w) (base := base) T F_law_levels m_law_levels 
  have H_c_law_abstracted := ok_law_abstracted (w := w) (base := base) T F_law_abstracted m_law_abstracted H_c_law_levels
  have H_c_abstracted := abs_all (w := w) (base := base) T F_abstracted m_abstracted 130
  have H_c_abstract := ok_abstract (w := w) (base := base) T F_abstract m_abstract H_c_abstracted
  have H_c_lam := ok_lam (w := w) (base := base) T F_lam m_lam H_c_abstract
  have H_c_instantiated := ins_all (w := w) (base := base) T F_instantiated m_instantiated 130
  have H_c_instantiate := ok_instantiate (w := w) (base := base) T F_instantiate m_instantiate H_c_measure H_c_parts H_c_instantiated
  have H_c_law_told_instance := ok_law_told_instance (w := w) (base := base) T F_law_told_instance m_law_told_instance H_c_instantiate
  have H_c_law_instantiated := ok_law_instantiated (w := w) (base := base) T F_law_instantiated m_law_instantiated H_c_law_levels
  have H_c_law_ask_abstract := ok_law_ask_abstract (w := w) (base := base) T F_law_ask_abstract m_law_ask_abstract H_c_law_built H_c_law_abstracted H_c_abstract H_c_lam H_c_law_same H_c_law_right H_c_law_told_instance H_c_law_instantiated
  have H_c_law_ask_wide := ok_law_ask_wide (w := w) (base := base) T F_law_ask_wide m_law_ask_wide H_c_law_take H_c_law_wide H_c_law_ask_put H_c_law_new H_c_law_ask_abstract
  have H_c_law_ask_deep := ok_law_ask_deep (w := w) (base := base) T F_law_ask_deep m_law_ask_deep H_c_law_take H_c_law_ask_put H_c_law_new H_c_law_ask_abstract
  have H_c_law_tip := ok_law_tip (w := w) (base := base) T F_law_tip m_law_tip H_c_law_take
  have H_c_law_grown := ok_law_grown (w := w) (base := base) T F_law_grown m_law_grown H_c_law_take H_c_law_tip
  have H_c_term_consts := ok_term_consts (w := w) (base := base) T F_term_consts m_term_consts H_c_pairs_of
  have H_c_law_once := ok_law_once (w := w) (base := base) T F_law_once m_law_once 
  have H_c_law_fills := ok_law_fills (w := w) (base := base) T F_law_fills m_law_fills H_c_law_take H_c_law_grown
  have H_c_law_kind_put := ok_law_kind_put (w := w) (base := base) T F_law_kind_put m_law_kind_put 
  have H_c_put_kind := pk_all (w := w) (base := base) T F_put_kind m_put_kind 50
  have H_c_put_kinds := pks_all (w := w) (base := base) T F_put_kinds m_put_kinds H_c_put_kind 101
  have H_c_law_ask_kinds := ok_law_ask_kinds (w := w) (base := base) T F_law_ask_kinds m_law_ask_kinds H_c_law_take H_c_law_kind_put H_c_put_kinds H_c_law_built H_c_law_same
  have H_c_law_general := ok_law_general (w := w) (base := base) T F_law_general m_law_general H_c_law_take H_c_law_grown H_c_law_built H_c_free_vars H_c_term_consts H_c_law_once H_c_law_same H_c_law_new H_c_law_ask_abstract H_c_law_told_instance H_c_law_instantiated H_c_law_right H_c_law_fills H_c_law_ask_put H_c_law_ask_kinds
  exact law_ok T F_law H_c_law_pot H_c_law_words H_c_law_pool H_c_law_ask_builders H_c_law_take H_c_law_ask_wide H_c_law_ask_deep H_c_law_general
end K01
open PySem PySem.W PySem.Calls PyProof.Rows
theorem PySem.Challenge.cw_lemmahall_k01_substitution_holds : PySem.Challenge.rw_lemmahall_k01_substitution.Holds := by
  w_on; o_law
  refine HandSHeadRun.head_any (r := OpenLaw.row PySem.Challenge.rw_lemmahall_k01_substitution) (q := view (OpenLaw.row PySem.Challenge.rw_lemmahall_k01_substitution).prog [55]) (H := K01.hk) (ob := K01.ob) (M := 3000) (loose := K01.loose) (d := HandSHeadRun.topDef (OpenLaw.row PySem.Challenge.rw_lemmahall_k01_substitution).prog 55) (kwd := []) K01.ob_eq
    (by kernel_rfl) (fun s => by kernel_rfl) K01.run (by kernel_rfl) (by kernel_rfl) (by kernel_rfl) (by rfl) (by first | assumption | decide +kernel) (by decide +kernel) ⟨rfl, rfl, rfl, rfl, rfl, by decide +kernel⟩ ?hw ?hc
  case hw => w_witness2
  case hc =>
    refine L2.walk_ofG (l := PySem.Challenge.rw_lemmahall_k01_substitution) (n := 63) (k := 156) (x := "script") (CX := L2.CX0) rfl (by decide) (by kernel_rfl) ⟨rfl, by decide, by decide⟩ ?F (fun _ _ _ _ z => z)
    intro w mg fa h Y G hmg0
    obtain ⟨K, KX, c⟩ := Y
    have hmg : mg ("law" : PySem.Str) = some (.ref fa) := by
      have e : (HandSHeadRun.topDef (OpenLaw.row PySem.Challenge.rw_lemmahall_k01_substitution).prog 55).name = ("law" : PySem.Str) := by kernel_rfl
      rw [← e]
      exact hmg0
    obtain ⟨fd, hb, hF⟩ := K01.facts (w := w) KX G hmg c
    exact ⟨K, fd, K01.sp_law K, KX, hb, fun H a ns hl _ hS => ⟨L2.V.ref a, rfl, a, ns, rfl, hS, hl, fun _ => rfl⟩, hF⟩
