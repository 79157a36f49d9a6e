import PyProof.Rows.All
import Wide.All
import OpenK.AllK
import Wide.FinOn
import PyProof.EqAt
import PyProof.EqKinds
import PyProof.TupleCall
import PyProof.FString
import KE.KExcSuper
import HandS.ForSpec
import HandS.Codes
import KE.KExcIs
import KE.KIsAll
import HandS.ExcField
import HandS.ExcIs
import HandS.TryMany
import KE.KStateDown
import HandS.Defaults
import HandS.Head0
import HandS.Head1
import HandS.Head2
import HandS.HeadEnd
import HandS.HeadHook2
import HandS.HeadHook3
import PyProof.StrBlock2
import HandS.ForMost
import HandS.Flow
import HandS.IsInst
import HandS.Wide
import HandS.Evl
import HandS.Comp
import HandS.Text
import HandS.StrMore
import HandS.SetFor
import HandS.More
import HandS.Dict
import PyProof.SeqRoads2
import PyProof.ReprRoads
import HandS.Style
import PySem.Challenge.RW_lemmahall_k03_formulas_and_places
import HandS.Star
import HandS.DictEq
import HandS.Small
import HandS.DictComp
import HandS.Iter
import HandS.Walk
import HandS.GenList
import PyProof.TupleOfGen
import HandS.TupAny
set_option Elab.async false
set_option linter.all false
set_option maxRecDepth 100000
set_option maxHeartbeats 4000000
/-! Exceptions of the program: classes over ValueError whose __init__ says super().__init__(text) and then stores its arguments. -/
namespace PySem
namespace HallX
open PySem.W PySem.Calls PyProof.Rows PySem.HandSPX
/-! ### the method-wrapper of ValueError.__init__ -/
section
variable {prog : Program} {w : World} {A : Around} {E : Value → Shared → Prop} {h : Heap} {g : Array GenState} {d : Drawn} {t : Nat} {os : OsState}
variable {nm q : Str} {C N : Addr} {bs bm : List Value} {sn : List Str} {sub : List Value} {ab : Bool} {col : Option Bool} {dd : Option Addr} {k0 k1 k2 k3 k5 : Option Value}
theorem call_bw {u e t0 : Addr} {rest : List Value} {Q : Value → Shared → Prop}
    (hC : h.get? C = some (excClassObj nm q C N bs bm true sn sub ab col dd k0 k1 k2 k3 k5 "ValueError.__new__")) (he : h.get? e = some (excO C t0)) (hu : h.get? u = some (kxs_mw "ValueError.__init__" e)) (hrest : rest.length ≤ sizeLine)
    (hq : ∀ h' t1, (∀ b o, b ≠ e → h.get? b = some o → h'.get? b = some o) → h'.get? e = some (excO C t1) → Q .none ⟨h', g, d, t, os⟩) :
    wpAny (model prog w) A (call (.ref u) rest) Q E ⟨h, g, d, t, os⟩ := by
  refine wpAny_call (codeAny_of_tree ?_)
  show wpAny _ A.in1 (callAny (.ref u) ⟨rest, []⟩) _ _ _
  simp only [callAny]
  refine wpAny_bind (wpAny_load hu ?_)
  simp only [kxs_mw, show (Value.type "method-wrapper" == Value.type "method" || Value.type "method-wrapper" == Value.type "builtin_function_or_method" || Value.type "method-wrapper" == Value.type "method-wrapper") = true by decide, if_true]
  refine KFB.if_so (by decide) ?_
  refine wpAny_bind (check_bound_init F.excBase_ValueError.toExcCallFacts hC he rfl ?_)
  refine wpAny_bind (wpAny_pure (wpAny_pure ?_))
  refine ⟨plainId_quiet F.excBase_ValueError.init.plain _, codeAny_builtin F.excBase_ValueError.initEntry ?_⟩
  exact exc_init_tree (cls := .ref C) (t0 := t0) (dv := none) (c2 := .none) (c3 := .none) (b4 := .bool false) he hrest fun h' k e' _ => hq h' h.objs.size k e'
end
/-! ### the class, as the top has written it -/
structure HallTxt (prog : Program) (K : Frag) (mg : Str → Option Value) (x : Str) (C fI cc cda : Addr) (qual : Str) (params : Arguments) (body : List Stmt) (scope : Scope) : Prop where
  gC : mg x = some (.ref C)
  cls : ∃ nm q N bs bm sn sub ab col dd k0 k1 k2 k3 k5, K.lookup C = some (excClassObj nm q C N bs bm true sn sub ab col dd k0 k1 k2 k3 k5 "ValueError.__new__") ∧ refsVE bm = true
  sup : ks_superIn K C C "__init__" = some (some (.builtin "ValueError.__init__"))
  sa : findIn K (.ref C) "__setattr__" = some (some (.builtin "object.__setattr__"))
  ga : findIn K (.ref C) "__getattribute__" = some (some (.builtin "BaseException.__getattribute__"))
  gg : findIn K (.ref C) "__getattr__" = some none
  iC : findIn K (.ref C) "__init__" = some (some (.ref fI))
  tI : typeIn K (.ref fI) = some (.type "function")
  kC : keepIn K (.ref C) = true
  exC : subIn K (.ref C) (.type "BaseException") = some true
  tyC : typeIn K (.ref C) = some (.type "type")
  hdC : hasDictIn K C = true
  ve : subIn K (.ref C) (.type "ValueError") = some true
  self : mroIn K C (.ref C) = some true
  fn : ∃ oc od dV kV doc pm an ct osl, K.lookup fI = some ⟨oc, od, .func (ksFn "__init__" qual params body scope dV kV doc pm an (.ref cda) ct cc), osl⟩ ∧ codeIn K (.ref cda) qual = true ∧ dV = Value.none
  code : ∃ ccl cdd vs ccs tf, K.lookup cda = some ⟨ccl, cdd, .fields vs, ccs⟩ ∧ vs[2]? = some (.str prog.main.file tf)
  cell : ∃ cl cld csl, K.lookup cc = some ⟨cl, cld, .cell (some (.ref C)), csl⟩
  stat : nsIn K cStatics "thirdparty.any" = some none
  sup0 : mg "super" = none
  top0 : (prog.main.scope.names.lookup ("super" : Str)).isSome = false
/-- a message: a text is made, nothing else happens -/
def MsgOk (prog : Program) (w : World) (env : Env) (L : Addr) (m : Str → Option Value) (e : Expr) : Prop :=
  ∀ (A : Around) (E : Value → Shared → Prop) (s : Shared) (Q : Value → Shared → Prop), s.heap.Ns L m → (∀ z tk tk', Q (.str z tk) { s with toks := tk' }) → wpAny (model prog w) A (eval e env) Q E s
section
variable {prog : Program} {w : World} {A : Around} {E : Value → Shared → Prop} {R : Result → Shared → Prop} {s : Shared} {K : Frag} {mg mb : Str → Option Value} {x : Str} {C fI cc cda : Addr} {qual : Str} {params : Arguments} {body : List Stmt} {scope : Scope}
theorem msg_const {env : Env} {L : Addr} {m : Str → Option Value} {z : Str} {j} {pos : Pos} : MsgOk prog w env L m (.Constant (.str z) j pos) := fun A E s Q _ h => Calls.Constant_str (h z _ _)
theorem ldv {env : Env} {L : Addr} {m : Str → Option Value} {y : Str} {pos : Pos} {v : Value} {Q : Value → Shared → Prop} (hn : s.heap.Ns L m) (hL : env.locals = L) (hv : m y = some v) (h : Q v s)
    (hk : env.scope.kind = .function) (hl : env.kindOf y = some .local) (hd : (y == ("__debug__" : Str)) = false) : wpAny (model prog w) A (eval (.Name y pos) env) Q E s := by
  subst hL
  exact wpAny_Name (wpAny_loadName_local hk hl hn hv h) hd
theorem evalEach_nil (env : Env) : evalEach [] env = [] := by first | rfl | simp [evalEach]
theorem evalEach_cons (e : Expr) (es : List Expr) (env : Env) : evalEach (e :: es) env = eval e env :: evalEach es env := by first | rfl | simp [evalEach]
/-- f"text{y}" -/
theorem msg_f2 {env : Env} {L : Addr} {m : Str → Option Value} {z y : Str} {j} {p1 p2 p3 pos : Pos} {i : Int} {ti : Tok} (hL : env.locals = L) (hv : m y = some (.int i ti)) (hi : i.natAbs.log2 < 1920) (hz : z.length + (toString i : Str).length ≤ sizeLine)
    (hk : env.scope.kind = .function) (hl : env.kindOf y = some .local) (hd : (y == ("__debug__" : Str)) = false) :
    MsgOk prog w env L m (.JoinedStr [.Constant (.str z) j p1, .FormattedValue (.Name y p2) (-1) none p3] pos) := fun A E s Q hn h => by
  refine wpAny_JoinedStr ?_
  rw [evalEach_cons, evalEach_cons, evalEach_nil]
  have e0 : (Str.empty ++ z) = z := by
    obtain ⟨a⟩ := z
    show (⟨#[] ++ a⟩ : Str) = ⟨a⟩
    simp
  refine Calls.Constant_str ⟨z, _, rfl, ?_, ?_⟩
  · rw [e0]; omega
  · rw [e0]
    refine wpAny_FormattedValue_plain (ldv (s := { s with toks := s.toks + 1 }) hn hL hv ?_ hk hl hd)
    refine wpAny_formatField_int hi ⟨_, _, rfl, ?_, ?_, ?_⟩
    · rw [Str.length_append]; exact hz
    · rw [Str.length_append]; exact hz
    · exact h _ _ _
/-- what super().__init__(msg) leaves -/
theorem super_init {pl : Sem Bool} {e t0 L : Addr} {m : Str → Option Value} {msg : Expr} {p0 p1 p2 p3 p4 : Pos} {Q : Flow → Shared → Prop} {ar : Arg} (T : HallTxt prog K mg x C fI cc cda qual params body scope)
    (X : K.In s.heap) (G : s.heap.Ns mainGlobals mg) (Gb : s.heap.Ns builtinsNs mb) (hb : mb "super" = some (.type "super")) (hn : s.heap.Ns L m) (he : s.heap.get? e = some (excO C t0)) (hne : K.lookup e = none)
    (har : (params.posonlyargs ++ params.args).head? = some ar) (hself : m ar.arg = some (.ref e))
    (hks : scope.names.lookup ("super" : Str) = some .globalImplicit) (hkc : scope.names.lookup ("__class__" : Str) = some .free) (hka : scope.names.lookup ar.arg = some .local) (hk : scope.kind = .function)
    (hm : MsgOk prog w (ksEnv qual scope L fI (.ref cda) cc) L m msg)
    (hst : starEach [msg] (ksEnv qual scope L fI (.ref cda) cc) = [(false, eval msg (ksEnv qual scope L fI (.ref cda) cc))])
    (hev : eval (.Call (.Attribute (.Call (.Name "super" p0) [] [] p1) "__init__" p2) [msg] [] p3) (ksEnv qual scope L fI (.ref cda) cc) = (do
      let ov ← attributeBase (.Call (.Name "super" p0) [] [] p1) "__init__" (ksEnv qual scope L fI (.ref cda) cc) (eval (.Call (.Name "super" p0) [] [] p1) (ksEnv qual scope L fI (.ref cda) cc))
      standAt p2.atName
      let (f, first) ← holding [ov] (getMethod ov "__init__" pl)
      callWith p3 f first (backTo p3 (starEach [msg] (ksEnv qual scope L fI (.ref cda) cc))) []))
    (hq : ∀ h' tk t1, (∀ b o, b ≠ e → s.heap.get? b = some o → h'.get? b = some o) → h'.get? e = some (excO C t1) → Q .next { s with heap := h', toks := tk }) :
    _root_.PySem.wpAt (model prog w) A (.func body (ksEnv qual scope L fI (.ref cda) cc)) (exec (.Expr (.Call (.Attribute (.Call (.Name "super" p0) [] [] p1) "__init__" p2) [msg] [] p3) p4) (ksEnv qual scope L fI (.ref cda) cc)) Q E s := by
  obtain ⟨hh, g, d, t, os⟩ := s
  obtain ⟨nm, q, N, bs, bm, sn, sub, ab, col, dd, k0, k1, k2, k3, k5, hC, hbm⟩ := T.cls
  obtain ⟨oc, od, dV, kV, doc, pm, an, ct, osl, hf, hcd, _⟩ := T.fn
  obtain ⟨ccl, cdd, vs, ccs, tf, hcode, hvs⟩ := T.code
  obtain ⟨cl, cld, csl, hcell⟩ := T.cell
  have hcl : clsIn K C = some { name := nm, bases := bs, mro := .ref C :: bm, ns := N, qualname := q, hasDict := true, slotNames := sn, subclasses := sub, abstract := ab, collection := col, hasDel := false } := by unfold clsIn; rw [hC] <;> rfl
  have eC : e ≠ C := fun z => by rw [z, hC] at hne; cases hne
  have hint : interactive (ksEnv qual scope L fI (.ref cda) cc) = false := by
    show (scope.kind == .module && _) = false
    rw [hk] <;> rfl
  refine ks_wpAt_Expr_any (ks_wpAt_MethodCall (pl := pl) ?_ hev) hint rfl
  · refine ks_wpAt_super_base (env := ksEnv qual scope L fI (.ref cda) cc) hks hkc (by decide) rfl (X _ _ hf) rfl har rfl (X _ _ hcode) rfl hvs (by simp) T.top0 ?_
    refine ks_loadName_global hk hks (loadGlobal_builtin (env := ksEnv qual scope L fI (.ref cda) cc) G T.sup0 Gb hb ⟨rfl, ?_⟩)
    refine wpAny_loadName_free hk hkc rfl ⟨_, X _ _ hcell, rfl⟩ ?_
    refine wpAny_loadName_local hk hka hn hself ?_
    refine ks_wpAny_isType_cls (X _ _ hC) rfl ⟨rfl, ?_⟩
    refine ks_wpAny_call_super (X _ _ hC) rfl he rfl (fun c z => by cases z) (looks_mroIn X T.self) (fun h1 hso k1' => ?_)
    have X1 : K.In h1 := X.keeps k1'
    have he1 := k1' _ _ he
    have hmro : Looks (model prog w) h1 (mroOf (.ref C)) (.ref C :: bm) := fun A Q E s k q => wpAny_bind ((looks_clsIn X1 hcl) A _ E s k (wpAny_pure q))
    have hsup : alongIn K "__init__" (((Value.ref C :: bm).dropWhile (· != .ref C)).drop 1) = some (some (.builtin "ValueError.__init__")) := by
      have z := T.sup
      unfold ks_superIn at z
      rw [hcl] at z
      exact z
    have I1 : InstAt h1 e (excO C t0) C none := ⟨he1, rfl, rfl, trivial⟩
    refine kxs_getMethod kxs_ValueError hso (looks_opaque X1 T.stat) hmro rfl X1 hsup (I1.type.andThen (looks_subIn X1 T.ve)) eC (by decide) ?_
    have hu : (h1.push (kxs_mw "ValueError.__init__" e)).get? h1.objs.size = some (kxs_mw "ValueError.__init__" e) := Heap.get?_push_at rfl rfl
    have k2' : ∀ b o, hh.get? b = some o → (h1.push (kxs_mw "ValueError.__init__" e)).get? b = some o := fun b o z => Heap.get?_push_of_some _ (k1' b o z)
    refine kxs_callWith (i := "ValueError.__init__") (x := e) (by rw [hst] <;> rfl) ?_
    rw [hst]
    refine evalArgs_plain ?_
    show wpAny _ _ (spliced [(false, eval msg (ksEnv qual scope L fI (.ref cda) cc))]) _ _ _
    refine Calls.spliced_cons (hm _ _ ⟨h1.push (kxs_mw "ValueError.__init__" e), g, d, t + 1, os⟩ _ (hn.keeps k2') (fun z tk tk' => ?_))
    refine Calls.spliced_nil ⟨hu, ?_⟩
    refine call_bw (X1.keeps (fun b o z => Heap.get?_push_of_some _ z) _ _ hC) (k2' _ _ he) hu (by show 1 ≤ sizeLine; rw [sizeLine_eq]; decide) (fun h' t1 k3' e' => ?_)
    exact hq h' _ t1 (fun b o hbe ho => k3' b o hbe (k2' b o ho)) e'
/-- what __init__ leaves of a fresh exception at e -/
structure InitEnd (h h' : Heap) (e C dx : Addr) (y : Str) (v : Value) : Prop where
  keep : ∀ b o, b ≠ e → h.get? b = some o → h'.get? b = some o
  obj : ∃ t1, h'.get? e = some { cls := .ref C, dict := some dx, data := .fields #[.ref t1, .none, .none, .none, .bool false, .none] }
  dbig : h.objs.size ≤ dx
  dne : dx ≠ e
  ns : h'.Ns1 dx (fun z => if z = y then some v else none)
/-- a made exception -/
structure OwnMade (h h' : Heap) (e C d : Addr) (y : Str) (v : Value) : Prop where
  keep : ∀ b o, h.get? b = some o → h'.get? b = some o
  new : h.objs.size ≤ e
  obj : ∃ oe vs, h'.get? e = some oe ∧ oe.cls = .ref C ∧ oe.dict = some d ∧ oe.data = .fields vs ∧ vs[1]? = some .none
  dbig : h.objs.size ≤ d
  dne : d ≠ e
  ns : h'.Ns1 d (fun z => if z = y then some v else none)
/-- __init__(self, y): super().__init__(msg); self.y = y -/
structure Init1 (prog : Program) (w : World) (y : Str) (ok : Value → Prop) (qual : Str) (params : Arguments) (body : List Stmt) (scope : Scope) : Prop where
  head : ∃ a1 : Arg, a1.arg = "self" ∧ (params.posonlyargs ++ params.args).head? = some a1
  bind : ∀ (kV doc pm : Value) (an : Option Addr) (cdv ct : Value) (cc : Addr) (u v : Value), bindArgs (ksFn "__init__" qual params body scope .none kV doc pm an cdv ct cc) ⟨[u, v], []⟩ = pure [(("self" : Str), u), (y, v)]
  bd : ∃ (p0 p1 p2 p3 p4 q1 q2 q3 q4 : Pos) (msg : Expr) (pl : Sem Bool), body = [.Expr (.Call (.Attribute (.Call (.Name "super" p0) [] [] p1) "__init__" p2) [msg] [] p3) p4, .Assign [.Attribute (.Name "self" q1) y q2] (.Name y q3) q4] ∧
    (∀ (L fI cc : Addr) (cd : Value) (m : Str → Option Value) (v : Value), m y = some v → ok v → MsgOk prog w (ksEnv qual scope L fI cd cc) L m msg) ∧
    (∀ (env : Env), env.scope = scope → starEach [msg] env = [(false, eval msg env)]) ∧
    (∀ (env : Env), env.scope = scope → eval (.Call (.Attribute (.Call (.Name "super" p0) [] [] p1) "__init__" p2) [msg] [] p3) env = (do
      let ov ← attributeBase (.Call (.Name "super" p0) [] [] p1) "__init__" env (eval (.Call (.Name "super" p0) [] [] p1) env)
      standAt p2.atName
      let (f, first) ← holding [ov] (getMethod ov "__init__" pl)
      callWith p3 f first (backTo p3 (starEach [msg] env)) []))
  hys : (y == ("self" : Str)) = false
  hyd : (y == ("__debug__" : Str)) = false
  hks : scope.names.lookup ("super" : Str) = some .globalImplicit
  hkc : scope.names.lookup ("__class__" : Str) = some .free
  hka : scope.names.lookup ("self" : Str) = some .local
  hky : scope.names.lookup y = some .local
  hk : scope.kind = .function
  hco : scope.isCoroutine = false
  hgen : scope.isGenerator = false
  hcell : ∀ x ∈ scope.names, x.2 ≠ .cell
theorem hall_init {e t0 : Addr} {v : Value} {y : Str} {ok : Value → Prop} (T : HallTxt prog K mg x C fI cc cda qual params body scope) (I : Init1 prog w y ok qual params body scope) (no : findIn K (.ref C) y = some none)
    (X : K.In s.heap) (G : s.heap.Ns mainGlobals mg) (Gb : s.heap.Ns builtinsNs mb) (hb : mb "super" = some (.type "super")) (hlim : s.heap.NoLimit) (he : s.heap.get? e = some (excO C t0)) (hne : K.lookup e = none)
    (hroom : A.depth < recursionLimit) (hv : ok v)
    (hq : ∀ h' tk dx, InitEnd s.heap h' e C dx y v → R (.ok (.ret .none)) { s with heap := h', toks := tk }) :
    codeAny (model prog w) A (.call (.ref fI) ⟨[.ref e, v], []⟩) R s := by
  obtain ⟨nm, q, N, bs, bm, sn, sub, ab, col, dd, k0, k1, k2, k3, k5, hC, hbm⟩ := T.cls
  obtain ⟨oc, od, dV, kV, doc, pm, an, ct, osl, hf, hcd, hdv⟩ := T.fn
  obtain ⟨p0, p1, p2, p3, p4, q1, q2, q3, q4, msg, pl, rfl, hm, hst, hev⟩ := I.bd
  have hcl : clsIn K C = some { name := nm, bases := bs, mro := .ref C :: bm, ns := N, qualname := q, hasDict := true, slotNames := sn, subclasses := sub, abstract := ab, collection := col, hasDel := false } := by unfold clsIn; rw [hC] <;> rfl
  refine ks_codeAny_call_defAt (body := _) (binds := [(("self" : Str), .ref e), (y, v)]) hroom (X _ _ hf) rfl hlim (codeRec_of X hcd) rfl (by subst hdv; exact BindsTo.of_eq (I.bind _ _ _ _ _ _ _ _ _)) I.hcell (fun z hz => ?_) (fun h₁ hns hk₁ => ?_) I.hco I.hgen I.hk
  · rcases List.mem_cons.mp hz with rfl | hz
    · exact I.hka
    rcases List.mem_cons.mp hz with rfl | hz
    · exact I.hky
    · cases hz
  · show _root_.PySem.wpAt (model prog w) _ (.func _ (ksEnv qual scope s.heap.objs.size fI (.ref cda) cc)) (execs _ (ksEnv qual scope s.heap.objs.size fI (.ref cda) cc)) _ _ _
    have my : (fun z => ([(("self" : Str), Value.ref e), (y, v)] : List (Str × Value)).reverse.lookup z) y = some v := by
      show List.lookup y ([(y, v), (("self" : Str), Value.ref e)] : List (Str × Value)) = some v
      simp [List.lookup]
    have ms : (fun z => ([(("self" : Str), Value.ref e), (y, v)] : List (Str × Value)).reverse.lookup z) "self" = some (.ref e) := by
      show List.lookup ("self" : Str) ([(y, v), (("self" : Str), Value.ref e)] : List (Str × Value)) = some (.ref e)
      have z : (("self" : Str) == y) = false := by
        have z := I.hys
        rw [beq_eq_false_iff_ne] at z ⊢
        exact fun w => z w.symm
      simp [List.lookup, z]
    have eL : s.heap.objs.size ≠ e := Nat.ne_of_gt (Heap.lt_size he)
    obtain ⟨a1, ha1, hpar⟩ := I.head
    refine ks_wpAt_execs_cons (super_init (t0 := t0) (mb := mb) (pl := pl) (ar := a1) T (X.keeps hk₁) (G.keeps hk₁) (Gb.keeps hk₁) hb hns (hk₁ _ _ he) hne hpar (by rw [ha1]; exact ms) I.hks I.hkc (by rw [ha1]; exact I.hka) I.hk
      (hm _ _ _ _ _ v my hv) (hst _ rfl) (hev _ rfl) (fun h' tk t1 k' e' => ?_))
    have X' : K.In h' := fun a o z => by
      have hae : a ≠ e := fun w => by rw [w, hne] at z; cases z
      exact k' a o hae (hk₁ _ _ (X a o z))
    have hns' : h'.Ns s.heap.objs.size (fun z => ([(("self" : Str), Value.ref e), (y, v)] : List (Str × Value)).reverse.lookup z) := hns.at fun o z => k' _ o eL z
    refine _root_.PySem.wpAt_of_wpAny ?_
    show wpAny _ _ (execs [_] _) _ _ _
    refine wpAny_execs_cons (plainObj_wpAny_Assign_Attribute ?_)
    refine ldv hns' rfl my (ldv hns' rfl ms ?_ I.hk I.hka (by decide)) I.hk I.hky I.hyd
    refine set_plain X' (ox := excO C t1) (od := none) ⟨e', rfl, rfl, trivial⟩ T.sa ?_
    refine exc_osa X' e' hcl (show refsVE (.ref C :: bm) = true from hbm) rfl no (fun h₃ tk₃ dx k₃ dn dne hx₃ hn₃ => ?_)
    show wpAny _ _ (execs _ _) _ _ _
    have z : s.heap.objs.size ≤ dx := by
      have z1 : s.heap.objs.size < h'.objs.size := hns'.lt
      have z2 : h'.objs.size ≤ dx := dn
      exact Nat.le_of_lt (Nat.lt_of_lt_of_le z1 z2)
    exact wpAny_execs_nil (hq h₃ tk₃ dx ⟨fun b o hbe z => k₃ b o hbe (k' b o hbe (hk₁ b o z)), ⟨t1, hx₃⟩, z, dne, hn₃⟩)
theorem hall_made {v : Value} {y : Str} {ok : Value → Prop} (T : HallTxt prog K mg x C fI cc cda qual params body scope) (I : Init1 prog w y ok qual params body scope) (no : findIn K (.ref C) y = some none)
    (X : K.In s.heap) (G : s.heap.Ns mainGlobals mg) (Gb : s.heap.Ns builtinsNs mb) (hb : mb "super" = some (.type "super")) (hlim : s.heap.NoLimit) (hroom : A.depth + 1 < recursionLimit) (hv : ok v)
    (hq : ∀ h' tk e d, OwnMade s.heap h' e C d y v → R (.ok (.ret (.ref e))) { s with heap := h', toks := tk }) :
    codeAny (model prog w) A (.call (.ref C) ⟨[v], []⟩) R s := by
  obtain ⟨nm, q, N, bs, bm, sn, sub, ab, col, dd, k0, k1, k2, k3, k5, hC, hbm⟩ := T.cls
  obtain ⟨hp, g, dr, tk, os⟩ := s
  have k : ∀ b o, hp.get? b = some o → ((hp.push (kdv_tup [v])).push (excO C hp.objs.size)).get? b = some o := fun b o e => Heap.get?_push_of_some _ (Heap.get?_push_of_some _ e)
  have hget : ((hp.push (kdv_tup [v])).push (excO C hp.objs.size)).get? (hp.objs.size + 1) = some (excO C hp.objs.size) := by heap_get
  have hnx : K.lookup (hp.objs.size + 1) = none := by
    cases e : K.lookup (hp.objs.size + 1) with
    | none => rfl
    | some o =>
      have z : hp.get? (hp.objs.size + 1) = some o := X _ _ e
      exact absurd (Nat.lt_of_succ_lt (Heap.lt_size z)) (Nat.lt_irrefl _)
  refine call_own F.excBase_ValueError (fun X => refsVE_contains X bm hbm) (X _ _ hC) (looks_findIn X T.iC) (fun self => bind_fn X self T.tI) (by show 1 ≤ sizeLine; rw [sizeLine_eq]; decide) ?_
  refine hall_init (s := ⟨(hp.push (kdv_tup [v])).push (excO C hp.objs.size), g, dr, tk, os⟩) T I no (X.keeps k) (G.keeps k) (Gb.keeps k) hb (hlim.keeps k) hget hnx ?_ hv fun h' tk' dx ⟨k', hx, dn, dne, hns⟩ => ?_
  · show A.depth + 1 < recursionLimit
    exact hroom
  · have old : ∀ b o, hp.get? b = some o → h'.get? b = some o := fun b o e => k' b o (Nat.ne_of_lt (Nat.lt_succ_of_lt (Heap.lt_size e))) (k b o e)
    have z : hp.objs.size + 1 + 1 ≤ dx := by
      first
        | (simpa only [Heap.size_push] using dn)
        | exact dn
        | (have q := dn; rw [Heap.size_push, Heap.size_push] at q; exact q)
    obtain ⟨t1, hx⟩ := hx
    exact ⟨rfl, hq h' tk' (hp.objs.size + 1) dx ⟨old, Nat.le_succ _, ⟨_, _, hx, rfl, rfl, rfl, rfl⟩, Nat.le_trans (Nat.le_trans (Nat.le_succ _) (Nat.le_succ _)) z, dne, hns⟩⟩
end
end HallX
end PySem
namespace L2
open PySem PySem.Spec PyProof.Rows PySem.HallX
theorem relO_one {v : V} {v' : Value} (r : RelV v v') (y f : Str) : RelO (List.lookup f [(y, v)]) (if f = y then some v' else none) := by
  by_cases hw : f = y
  · subst hw
    rw [if_pos rfl]
    have q : List.lookup f [(f, v)] = some v := by simp [List.lookup]
    rw [q]
    exact r
  · rw [if_neg hw]
    have qw : (f == y) = false := by simpa using hw
    have q2 : List.lookup f [(y, v)] = none := by simp [List.lookup, qw]
    rw [q2]
    trivial
theorem boot_super : bootBuiltins "super" = some (.type "super") := by first | rfl | kernel_rfl | decide +kernel
section
variable {X : Cx} {x y qual : Str} {C fI cc cda : Addr} {params : Arguments} {body : List Stmt} {scope : Scope}
/-- C(e) -/
def tMkH (C : Addr) (y : Str) (okV : V → Prop) (ta : TA) : St → Hp → XK → Prop := fun σ H Q => ta σ H fun vs H1 => ∃ v, vs = [v] ∧ okV v ∧ ∀ d, H1 d = none → Q (.ref C) (some d) (upd H1 d (.xd [(y, v)]))
theorem pmk_hall {a : Expr} {ta : TA} {p pos : Pos} {k : Nat} {ok : Value → Prop} {okV : V → Prop} (T : HallTxt X.prog X.K X.mg x C fI cc cda qual params body scope) (J : Init1 X.prog X.w y ok qual params body scope) (no : PySem.W.findIn X.K (.ref C) y = some none)
    (hok : ∀ v u, RelV v u → okV v → ok u) (hr : Room k X.A) (ha : PA X [a] ta) (hg : Gl X x) (hd : (x == ("__debug__" : Str)) = false := by decide)
    (he : starEach (a :: []) X.env = (false, eval a X.env) :: starEach [] X.env := by rfl) (hpl : (backTo pos (starEach [] X.env)).any (·.1) = false := by rfl) :
    PMk X (.Call (.Name x p) [a] [] pos) (tMkH C y okV ta) := by
  intro pins s σ H Q I h
  refine wpAny_Call_Name_kw (ld_glob I hg T.gC ?_ hd)
  refine PySem.W.callWith_K (h₀ := X.base) I.ok.mod.kin T.kC (thn (ha.run pos pins s σ H _ I h) fun us s1 hh => ?_) he hpl
  obtain ⟨vs, H1, I1, r1, v, ev, hov, q1⟩ := hh
  subst ev
  refine ⟨I1.kIn, ?_⟩
  cases r1 with
  | cons rv rn =>
    rename_i v' us'
    cases rn
    show wpAny _ _ (call (.ref C) [v']) _ _ _
    have hlim := I1.nolimit
    obtain ⟨mb, hb1, hb2⟩ := I1.mod.blt
    have G := I1.mod.glob.keeps I1.bk
    have Gb := hb1.keeps I1.bk
    have hb : mb "super" = some (.type "super") := (hb2 "super" (by decide)).trans boot_super
    have hkin := I1.kIn
    obtain ⟨hp, g, dr, tk, os⟩ := s1
    refine wpAny_call (hall_made (mb := mb) T J no hkin G Gb hb hlim (by have := hr.dp; omega) (hok _ _ rv hov) fun h' tk' e d M => ?_)
    show MkP X pins σ Q (.ref e) ⟨h', g, dr, tk', os⟩
    obtain ⟨oe, fv, hoe, hc, hd, hdat, h1⟩ := M.obj
    have hns := M.ns
    obtain ⟨G', g1, g2⟩ := restrict h' fun b => decide (b ≠ e)
    have gk : ∀ b, b ≠ e → G'.get? b = h'.get? b := fun b hb => g1 b (decide_eq_true hb)
    have ge : G'.get? e = none := g2 e (by simp)
    have old : ∀ b o, hp.get? b = some o → G'.get? b = some o := fun b o q => (gk b (Nat.ne_of_lt (Nat.lt_of_lt_of_le (Heap.lt_size q) M.new))).trans (M.keep b o q)
    have ob : ObjOk X.prog X.w (upd H1 d (.xd [(y, v)])) G' d (.xd [(y, v)]) :=
      ⟨_, hns.at (fun o q => (gk d M.dne).trans q), fun f => relO_one rv y f⟩
    have J : Inv X pins σ (upd H1 d (.xd [(y, v)])) ⟨G', g, dr, tk', os⟩ := I1.laid (t' := tk') old M.dbig ob
    refine ⟨e, oe, fv, ⟨G', g, dr, tk', os⟩, _, .ref C, some d, rfl, J, fun b o q => ?_, ge, hoe, ⟨hc, hd⟩, hdat, h1, ?_, rfl, I1.bare, raises_own T.exC T.tyC, q1 d (I1.hok.fresh M.dbig)⟩
    · by_cases hb : b = e
      · have q' : G'.get? b = some o := q
        rw [hb, ge] at q'; cases q'
      · exact (gk b hb).symm.trans q
    · rw [upd_ne (Ne.symm M.dne)]
      exact I1.hok.fresh M.new
/-- raise C(e) -/
def tRaiseH (C : Addr) (y : Str) (okV : V → Prop) (W : WX) (ta : TA) : TS := fun _ σ H => tMkH C y okV ta σ H fun cls d H' => W cls d σ H'
theorem ps_raiseH {a : Expr} {ta : TA} {W : WX} {p pos pos2 : Pos} {k : Nat} {ok : Value → Prop} {okV : V → Prop} (hc : X.calm = true) (T : HallTxt X.prog X.K X.mg x C fI cc cda qual params body scope) (J : Init1 X.prog X.w y ok qual params body scope) (no : PySem.W.findIn X.K (.ref C) y = some none)
    (hok : ∀ v u, RelV v u → okV v → ok u) (hr : Room k X.A) (tk : Takes X W) (ha : PA X [a] ta) (hg : Gl X x) (hd : (x == ("__debug__" : Str)) = false := by decide)
    (he : starEach (a :: []) X.env = (false, eval a X.env) :: starEach [] X.env := by rfl) (hpl : (backTo pos (starEach [] X.env)).any (·.1) = false := by rfl) :
    PS X (.Raise (some (.Call (.Name x p) [a] [] pos)) none pos2) (tRaiseH C y okV W ta) := ps_raise hc tk (pmk_hall T J no hok hr ha hg hd he hpl)
end
end L2

/-! several except clauses, with and without a name; isinstance of a caught error that has its dict -/
namespace L2
open PySem PySem.Spec PyProof.Rows
abbrev Clz : Type := Value × Option Nat × (Addr → Value → Option Addr → TS)
/-- behind a suite the name is unbound -/
def endsAs (i : Nat) (D : Ends) : Ends := { nx := fun σ H => D.nx (σ.set i none) H, rt := D.rt, bk := fun σ H => D.bk (σ.set i none) H, ct := fun σ H => D.ct (σ.set i none) H }
def wManyA (K : PySem.W.Frag) (Wout : WX) (D : Ends) : List Clz → WX
  | [] => Wout
  | (c, none, ts) :: r => fun cls d σ H => ∃ b, PySem.W.exmOne K cls c = some b ∧ (b = true → ∀ a, H a = none → ts a cls d D σ H) ∧ (b = false → wManyA K Wout D r cls d σ H)
  | (c, some i, ts) :: r => fun cls d σ H => ∃ b, PySem.W.exmOne K cls c = some b ∧ (b = true → ∀ a, H a = none → ts a cls d (endsAs i D) (σ.set i (some (.ref a))) H) ∧ (b = false → wManyA K Wout D r cls d σ H)
inductive HdsA (X : Cx) : List ExceptHandler → List Clz → Prop
  | nil : HdsA X [] []
  | bare {x : Str} {c : Value} {ts : Addr → Value → Option Addr → TS} {b₀ : Stmt} {suite : List Stmt} {np pos' : Pos} {hds : List ExceptHandler} {l : List Clz} (hc : Names X x c)
      (hsu : ∀ (a : Addr) (oe : Obj) (cls : Value) (d : Option Addr) (pn : List (Addr × Obj)), Zc cls d oe → (∃ vs, oe.data = .fields vs) → PSs (X.suite a ((a, oe) :: pn)) (b₀ :: suite) (ts a cls d)) (r : HdsA X hds l) :
      HdsA X (.ExceptHandler (some (.Name x np)) none (b₀ :: suite) pos' :: hds) ((c, none, ts) :: l)
  | as_ {x n : Str} {i : Nat} {c : Value} {ts : Addr → Value → Option Addr → TS} {b₀ : Stmt} {suite : List Stmt} {np pos' : Pos} {hds : List ExceptHandler} {l : List Clz} (hN : X.N.Nodup) (hi : X.N[i]? = some n) (hln : X.env.kindOf n = some .local) (hc : Names X x c)
      (hsu : ∀ (a : Addr) (oe : Obj) (cls : Value) (d : Option Addr) (pn : List (Addr × Obj)), Zc cls d oe → (∃ vs, oe.data = .fields vs) → PSs (X.suite a ((a, oe) :: pn)) (b₀ :: suite) (ts a cls d)) (r : HdsA X hds l) :
      HdsA X (.ExceptHandler (some (.Name x np)) (some n) (b₀ :: suite) pos' :: hds) ((c, some i, ts) :: l)
section
variable {X : Cx} {body : List Stmt} {h₀ : ExceptHandler} {hds : List ExceptHandler} {l : List Clz} {pos : Pos} {tb : WX → TS} {Wout : WX}
theorem ps_try_manyA (hs : X.stack = X.env :: X.outer) (hf : X.env.frame = some X.env.locals) (tk : Takes X Wout)
    (hb : ∀ (W : WX) (pn : List (Addr × Obj)) (xe : Value → Shared → Prop), Takes (X.tr pn xe) W → PassesOwn (model X.prog X.w) X.A X.env xe → PSs (X.tr pn xe) body (tb W))
    (hh : HdsA X (h₀ :: hds) l) : PS X (.Try body (h₀ :: hds) [] [] pos) (fun D σ H => tb (wManyA X.K Wout D l) D σ H) := by
  refine ⟨fun pins s σ H D I h => ?_⟩
  have ok := I.ok
  have hfr : X.A.frames = some (X.env :: X.outer) := by rw [ok.frames, hs]
  refine wpAny_Try_except ?_
  refine wpAny_mono ((hb (wManyA X.K Wout D l) (X.pn ++ pins) (fun e s₁ => wpAny (model X.prog X.w) X.A (noteFrame e X.env) (fun _ s₂ => wpAny (model X.prog X.w) X.A (setFlight e none) (fun _ s₃ =>
    wpAny (model X.prog X.w) X.A (handleBy e X.env (h₀ :: hds)) (SP X pins D) X.xe s₃) X.xe s₂) X.xe s₁) (fun u s' xx => ?_) PassesOwn.looking).run [] s σ H D (I.toTry _) h) (fun f s1 hsp => ?_) (fun e s1 he => he)
  · obtain ⟨a, B, sI, pins', σ', H', cls, d, rfl, J', nb, up, sky, na, os, ag, w⟩ := xx
    have J : Inv X pins σ' H' sI := J'.ofTry ok
    have sky' : Sky B (X.env :: X.outer) a (Zc cls d) X.env.locals s'.heap := by rw [← hs]; exact sky
    show wpAny (model X.prog X.w) X.A (noteFrame (.ref a) X.env) _ _ _
    refine Sky.land Zc.steady hfr hf sky' fun h3 fl3 up3 => ?_
    have J3 : Inv X pins σ' H' { s' with heap := h3 } := J.landed nb fl3.1 (up.trans up3) os ag
    obtain ⟨oe3, vs3, he3, hz3, hd3⟩ := fl3.there
    have notFr : ∀ {h : Heap} {o : Obj} {vs : Array Value}, h.FunFrames B (X.env :: X.outer) → h.get? a = some o → o.data = .fields vs → a ∉ frs (X.env :: X.outer) := fun {h o vs} ff e dd hm => by
      obtain ⟨_, o', e', hnf⟩ := ff.mem hm
      rw [e] at e'; cases e'
      exact hnf _ dd
    have nfr := notFr fl3.2.2.1 he3 hd3
    have nL : a ≠ X.env.locals := fun z => nfr (List.mem_filterMap.mpr ⟨X.env, List.mem_cons_self, by rw [hf, z]⟩)
    have nF : a ∉ X.fs := fun hm => by
      obtain ⟨e, he, q⟩ := List.mem_filterMap.mp hm
      exact nfr (List.mem_filterMap.mpr ⟨e, List.mem_cons_of_mem _ he, q⟩)
    have S3 := J3.suite he3 hd3 na nL nF
    have LT : PySem.W.Looks (model X.prog X.w) h3 (typeOf (.ref a)) cls := fun A Q E s k q => wpAny_typeOf_ref (k _ _ he3) (by rw [hz3.1]; exact q)
    have test : ∀ {x : Str} {c : Value} {np : Pos} (hc : Names X x c) {Q : Value → Shared → Prop} {E : Value → Shared → Prop}, Q c { s' with heap := h3 } → wpAny (model X.prog X.w) (X.A.mark (some (.ref a))) (eval (.Name x np) X.env) Q E { s' with heap := h3 } := by
      intro x c np hc Q E q
      obtain ⟨hg, hdbg, hm | ⟨hm, hv, hnn⟩⟩ := hc
      · exact ld_glob (X := X.suite a ((a, oe3) :: (X.pn ++ pins))) S3 hg hm q hdbg
      · exact ld_blt (X := X.suite a ((a, oe3) :: (X.pn ++ pins))) S3 hg hm hv q hnn hdbg
    have go : ∀ {hds' : List ExceptHandler} {l' : List Clz}, HdsA X hds' l' → wManyA X.K Wout D l' cls d σ' H' →
        wpAny (model X.prog X.w) X.A (handleBy (.ref a) X.env hds') (SP X pins D) X.xe { s' with heap := h3 } := by
      intro hds' l' hk
      induction hk with
      | nil =>
        intro w
        refine wpAny_handleBy_nil ?_
        obtain ⟨k1, k2, k3, oe, vs, T, oT, ts', he, hz, hd, h1, hr⟩ := id fl3
        unfold PySem.passOn
        refine wpAny_bind (wpAny_field he hd h1 ?_)
        rw [if_neg (show ¬ ((Value.ref T == Value.none) = true) from by simp)]
        have fin : wpAny (model X.prog X.w) X.A (setFlight (.ref a) X.env.frame) (fun _ s4 => wpAny (model X.prog X.w) X.A (throw (.ref a) : Sem Flow) (SP X pins D) X.xe s4) X.xe { s' with heap := h3 } := by
          rw [hf]
          refine HandSPX.setFlight_upZ fl3 fun h4 hh4 up4 => wpAny_throw (tk _ _ ?_)
          exact ⟨a, B, sI, pins, σ', H', cls, d, rfl, J, nb, (up.trans up3).trans up4, .inr (.inr (by rw [hs]; exact hh4)), na, os, ag, w⟩
        first
          | exact wpAny_bind (wpAny_pure (wpAny_bind fin))
          | exact wpAny_bind fin
      | @bare x c ts b₀ suite np pos' hds2 l2 hc hsu r ih =>
        intro w
        obtain ⟨b, hb1, hyes, hno⟩ := w
        refine wpAny_handleBy_cons (codeAny_handlers_test ?_) (by intro q; cases q)
        have LM := PySem.W.exm_one (M := model X.prog X.w) (J3.kIn) LT hb1
        refine test hc (LM.here ?_)
        cases b with
        | true =>
          refine codeAny_handlers_suite ?_
          refine HandSPX.lands_againZ fl3 fun h4 fl4 up4 => ?_
          have J4 : Inv X pins σ' H' { s' with heap := h4 } := J.landed nb fl4.1 ((up.trans up3).trans up4) os ag
          obtain ⟨oe4, vs4, he4, hz4, hd4⟩ := fl4.there
          have S4 := J4.suite he4 hd4 na nL nF
          refine wpAny_mono ((hsu a oe4 cls d (X.pn ++ pins) hz4 ⟨_, hd4⟩).run [] _ _ H' _ S4 (hyes rfl a na)) (fun f s6 hsp => ?_) (fun _ _ z => False.elim z)
          cases f with
          | next =>
            obtain ⟨σ6, H6, S6, q6⟩ := hsp
            exact ⟨_, _, S6.unsuite ok, q6⟩
          | brk =>
            obtain ⟨σ6, H6, S6, q6⟩ := hsp
            exact ⟨_, _, S6.unsuite ok, q6⟩
          | cont =>
            obtain ⟨σ6, H6, S6, q6⟩ := hsp
            exact ⟨_, _, S6.unsuite ok, q6⟩
          | ret u =>
            obtain ⟨v6, σ6, H6, S6, r6, q6⟩ := hsp
            exact ⟨_, _, _, S6.unsuite ok, r6, q6⟩
        | false =>
          show wpAny _ X.A (handleBy (.ref a) X.env hds2) _ _ _
          exact ih (hno rfl)
      | @as_ x n i c ts b₀ suite np pos' hds2 l2 hN hi hln hc hsu r ih =>
        intro w
        obtain ⟨b, hb1, hyes, hno⟩ := w
        have hloc : Loc X.env.scope n := .inl hln
        refine wpAny_handleBy_cons (codeAny_handlers_test ?_) (by intro q; cases q)
        have LM := PySem.W.exm_one (M := model X.prog X.w) (J3.kIn) LT hb1
        refine test hc (LM.here ?_)
        cases b with
        | true =>
          refine codeAny_handlers_suite_as ?_
          refine HandSPX.lands_againZ fl3 fun h4 fl4 up4 => ?_
          have J4 : Inv X pins σ' H' { s' with heap := h4 } := J.landed nb fl4.1 ((up.trans up3).trans up4) os ag
          obtain ⟨oe4, vs4, he4, hz4, hd4⟩ := fl4.there
          have S4 := J4.suite he4 hd4 na nL nF
          refine store_ok (X := X.suite a ((a, oe4) :: (X.pn ++ pins))) (v := .ref a) S4 hN hi hloc rfl (fun s5 S5 => ?_) (.inr hln)
          refine wpAny_mono ((hsu a oe4 cls d (X.pn ++ pins) hz4 ⟨_, hd4⟩).run [] s5 _ H' _ S5 (hyes rfl a na)) (fun f s6 hsp => ?_) (fun _ _ z => False.elim z)
          have end_ : ∀ {σ6 : St} {H6 : Hp} {Q : Shared → Prop}, Inv (X.suite a ((a, oe4) :: (X.pn ++ pins))) [] σ6 H6 s6 → (∀ s7, Inv X pins (σ6.set i none) H6 s7 → Q s7) →
              wpAny (model X.prog X.w) X.A (do bindName X.env n .none; unbindBehindTheSuite X.env n pos') (fun _ s7 => Q s7) X.xe s6 := fun {σ6 H6 Q} S6 hq => gone_ok (S6.unsuite ok) hN hi hln hq
          cases f with
          | next =>
            obtain ⟨σ6, H6, S6, q6⟩ := hsp
            exact end_ S6 fun s7 J7 => ⟨_, _, J7, q6⟩
          | brk =>
            obtain ⟨σ6, H6, S6, q6⟩ := hsp
            exact end_ S6 fun s7 J7 => ⟨_, _, J7, q6⟩
          | cont =>
            obtain ⟨σ6, H6, S6, q6⟩ := hsp
            exact end_ S6 fun s7 J7 => ⟨_, _, J7, q6⟩
          | ret u =>
            obtain ⟨v6, σ6, H6, S6, r6, q6⟩ := hsp
            exact end_ S6 fun s7 J7 => ⟨_, _, _, J7, r6, q6⟩
        | false =>
          show wpAny _ X.A (handleBy (.ref a) X.env hds2) _ _ _
          exact ih (hno rfl)
    exact go hh w
  · cases f with
    | next =>
      obtain ⟨σ', H', J', q⟩ := hsp
      exact wpAny_execs_nil ⟨σ', H', J'.ofTry ok, q⟩
    | brk =>
      obtain ⟨σ', H', J', q⟩ := hsp
      exact ⟨σ', H', J'.ofTry ok, q⟩
    | cont =>
      obtain ⟨σ', H', J', q⟩ := hsp
      exact ⟨σ', H', J'.ofTry ok, q⟩
    | ret u =>
      obtain ⟨v, σ', H', J', r, q⟩ := hsp
      exact ⟨v, σ', H', J'.ofTry ok, r, q⟩
end
/-- isinstance(e, c), e the exception that the suite holds at a: its class cls, its dict d -/
def rIsEd (K : PySem.W.Frag) (a : Addr) (cls : Value) (d : Option Addr) : List V → Hp → VK → Prop := fun xs H Q => ∃ (c : V) (cv : Value) (b : Bool) (D dd : Addr) (fs : List (Str × V)), xs = [.ref a, c] ∧ cls = .ref D ∧ ExcC K D ∧ d = some dd ∧ H dd = some (.xd fs) ∧
  (∀ u, RelV c u → u = cv) ∧ PySem.W.kitOne K (.ref D) cv = some b ∧ Q (.bl b) H
theorem call_isEd {X : Cx} {a : Addr} {cls : Value} {d : Option Addr} {oe : Obj} {pn : List (Addr × Obj)} (hz : Zc cls d oe) (hf : ∃ vs, oe.data = .fields vs) : CallR (X.suite a ((a, oe) :: pn)) (.builtin "isinstance") (rIsEd X.K a cls d) := by
  intro pins s σ H xs us Q I r h
  obtain ⟨c, cv, b, D, dd, fs, rfl, rfl, C, rfl, hdd, hcv, e, q⟩ := h
  cases r with
  | cons rx rr =>
    cases rr with
    | cons rt rr =>
      cases rr
      cases rx
      have ec := hcv _ rt
      subst ec
      obtain ⟨hget, _⟩ := I.pin (a, oe) (List.mem_append.mpr (.inl List.mem_cons_self))
      obtain ⟨vs, hv⟩ := hf
      have hx : ObjOk X.prog X.w H s.heap dd (.xd fs) := I.hok dd _ hdd
      obtain ⟨mA, hns, hr⟩ := hx
      obtain ⟨od, ho, hl⟩ := lookIn_ns hns
      have J : PySem.W.InstAt s.heap a oe D (some od) := ⟨hget, hz.1, by unfold PySem.W.notCls; rw [hv] <;> rfl, by rw [hz.2]; exact ho⟩
      have hcl : (PySem.W.clsIn X.K D).isSome = true := by
        obtain ⟨cd, hc, _⟩ := PySem.W.any_some C.hd
        rw [hc] <;> rfl
      exact PySem.W.kia_one (PySem.W.kitx_exc hcl C.hg C.hk C.hs C.ha C.hn C.ht C.hm) I.kIn J e (fun z => nomatch z) fun tk => ⟨.bl b, H, I.kept (t' := tk) fun _ _ z => z, rfl, q⟩
end L2

/-! The head's facts: defs, names, tables, and exception classes with their __init__ -/
namespace HallHt
open PySem PySem.Spec PyProof.Rows L2 PySem.HallX
def cAd (K : PySem.W.Frag) (x : Str) : Addr := He.ga K x
def iAd (K : PySem.W.Frag) (x : Str) : Addr := He.ma K (He.ga K x) "__init__"
def initFd (K : PySem.W.Frag) (x : Str) : Option FuncData := match K.lookup (iAd K x) with
  | some ⟨_, _, .func fd, _⟩ => some fd
  | _ => none
def codeAd (K : PySem.W.Frag) (x : Str) : Addr := match initFd K x with
  | some fd => (match fd.code with
    | .ref a => a
    | _ => 0)
  | none => 0
def cellAd (K : PySem.W.Frag) (x : Str) : Addr := match initFd K x with
  | some fd => (match fd.closure with
    | [(_, c)] => c
    | _ => 0)
  | none => 0
abbrev FnH : Type := Option (Str × Str × Arguments × FuncBody × Scope × Addr × Addr)
def fnH (K : PySem.W.Frag) (x : Str) : FnH := (initFd K x).map fun fd => (fd.name, fd.qualname, fd.params, fd.body, fd.scope, fd.globals, fd.builtins)
structure HallD where
  x : Str
  fld : Str
  qual : Str
  params : Arguments
  body : List Stmt
  scope : Scope
def HallD.val (d : HallD) : FnH := some ("__init__", d.qual, d.params, .stmts d.body, d.scope, mainGlobals, builtinsNs)
def clsB (K : PySem.W.Frag) (C : Addr) : Bool := match K.lookup C with
  | some ⟨.type "type", _, .cls cd, sl⟩ => (match cd.mro, sl.toList with
    | .ref C' :: bm, [_, _, _, _, some (.builtin n), _] => C' == C && n == "ValueError.__new__" && !cd.hasDel && cd.hasDict && PySem.HandSPX.refsVE bm
    | _, _ => false)
  | _ => false
theorem clsB_ok {K : PySem.W.Frag} {C : Addr} (q : clsB K C = true) : ∃ nm q N bs bm sn sub ab col dd k0 k1 k2 k3 k5, K.lookup C = some (excClassObj nm q C N bs bm true sn sub ab col dd k0 k1 k2 k3 k5 "ValueError.__new__") ∧ PySem.HandSPX.refsVE bm = true := by
  unfold clsB at q
  split at q
  · rename_i dd cd sl ho
    split at q
    · rename_i C' bm k0 k1 k2 k3 n k5 hm hs
      simp only [Bool.and_eq_true, beq_iff_eq, Bool.not_eq_true'] at q
      obtain ⟨⟨⟨⟨rfl, rfl⟩, hdel⟩, hdct⟩, ht⟩ := q
      obtain ⟨nm, bs, mro, ns, qn, hd, sn, sub, ab, col, del⟩ := cd
      dsimp only at hm hdel hdct
      subst hm hdel hdct
      have hsl : sl = #[k0, k1, k2, k3, some (.builtin "ValueError.__new__"), k5] := by
        obtain ⟨l⟩ := sl
        simp only at hs
        rw [hs]
      subst hsl
      exact ⟨nm, qn, ns, bs, bm, sn, sub, ab, col, dd, k0, k1, k2, k3, k5, ho, ht⟩
    · cases q
  · cases q
def noFld (K : PySem.W.Frag) (d : HallD) : Bool := decide (PySem.W.findIn K (.ref (cAd K d.x)) d.fld = some none)
def hallB (file : Str) (K : PySem.W.Frag) (d : HallD) : Bool :=
  He.eqO (PySem.W.nsIn K mainGlobals d.x) (some (some (.ref (cAd K d.x))))
  && (clsB K (cAd K d.x)
  && (decide (PySem.W.ks_superIn K (cAd K d.x) (cAd K d.x) "__init__" = some (some (.builtin "ValueError.__init__")))
  && (decide (PySem.W.findIn K (.ref (cAd K d.x)) "__setattr__" = some (some (.builtin "object.__setattr__")))
  && (decide (PySem.W.findIn K (.ref (cAd K d.x)) "__getattribute__" = some (some (.builtin "BaseException.__getattribute__")))
  && (decide (PySem.W.findIn K (.ref (cAd K d.x)) "__getattr__" = some none)
  && (decide (PySem.W.findIn K (.ref (cAd K d.x)) "__init__" = some (some (.ref (iAd K d.x))))
  && (decide (PySem.W.typeIn K (.ref (iAd K d.x)) = some (.type "function"))
  && (PySem.W.keepIn K (.ref (cAd K d.x))
  && (decide (PySem.W.subIn K (.ref (cAd K d.x)) (.type "BaseException") = some true)
  && (decide (PySem.W.typeIn K (.ref (cAd K d.x)) = some (.type "type"))
  && (PySem.W.hasDictIn K (cAd K d.x)
  && (decide (PySem.W.subIn K (.ref (cAd K d.x)) (.type "ValueError") = some true)
  && (decide (PySem.W.mroIn K (cAd K d.x) (.ref (cAd K d.x)) = some true)
  && ((match initFd K d.x with
    | some fd => decide (fd.closure = [(("__class__" : Str), cellAd K d.x)]) && (decide (fd.code = .ref (codeAd K d.x)) && decide (fd.defaults = Value.none))
    | none => false)
  && (PySem.W.codeIn K (.ref (codeAd K d.x)) d.qual
  && ((match K.lookup (codeAd K d.x) with
    | some ⟨_, _, .fields vs, _⟩ => (match (vs : Array Value)[2]? with
      | some (Value.str f _) => decide (f = file)
      | _ => false)
    | _ => false)
  && ((match K.lookup (cellAd K d.x) with
    | some ⟨_, _, .cell (some (.ref C)), _⟩ => decide (C = cAd K d.x)
    | _ => false)
  && (decide (PySem.W.nsIn K cStatics "thirdparty.any" = some none)
  && (He.eqO (PySem.W.nsIn K mainGlobals "super") (some none)
  && (decide (PySem.W.findIn K (.ref (cAd K d.x)) "__class__" = some (some (.builtin "object.__class__")))
  && (decide (PySem.W.specialIn K (.builtin "object.__class__") "__get__" = some (some (.builtin "getset_descriptor.__get__")))
  && (decide (PySem.W.takesIn K (.builtin "object.__class__") = some true)
  && decide (PySem.W.mroIn K (cAd K d.x) (.type "object") = some true)))))))))))))))))))))))
theorem ba {a b : Bool} (h : (a && b) = true) : a = true ∧ b = true := Bool.and_eq_true_iff.mp h
theorem hall_of {prog : Program} {K : PySem.W.Frag} {h : Heap} {mg : Str → Option Value} {d : HallD} (X : K.In h) (G : h.Ns mainGlobals mg) (e : fnH K d.x = d.val) (q : hallB prog.main.file K d = true) (t0 : (prog.main.scope.names.lookup ("super" : Str)).isSome = false) :
    HallTxt prog K mg d.x (cAd K d.x) (iAd K d.x) (cellAd K d.x) (codeAd K d.x) d.qual d.params d.body d.scope ∧ ExcC K (cAd K d.x) := by
  obtain ⟨c1, q⟩ := ba q
  obtain ⟨c2, q⟩ := ba q
  obtain ⟨c3, q⟩ := ba q
  obtain ⟨c4, q⟩ := ba q
  obtain ⟨c5, q⟩ := ba q
  obtain ⟨c6, q⟩ := ba q
  obtain ⟨c7, q⟩ := ba q
  obtain ⟨c8, q⟩ := ba q
  obtain ⟨c9, q⟩ := ba q
  obtain ⟨c10, q⟩ := ba q
  obtain ⟨c11, q⟩ := ba q
  obtain ⟨c12, q⟩ := ba q
  obtain ⟨c13, q⟩ := ba q
  obtain ⟨c14, q⟩ := ba q
  obtain ⟨c15, q⟩ := ba q
  obtain ⟨c16, q⟩ := ba q
  obtain ⟨c17, q⟩ := ba q
  obtain ⟨c18, q⟩ := ba q
  obtain ⟨c19, q⟩ := ba q
  obtain ⟨c20, q⟩ := ba q
  obtain ⟨c21, q⟩ := ba q
  obtain ⟨c22, q⟩ := ba q
  obtain ⟨c23, c24⟩ := ba q
  refine ⟨{ gC := PySem.W.mg_of X G (He.eqO_ok c1), cls := clsB_ok c2, «sup» := of_decide_eq_true c3, sa := of_decide_eq_true c4, ga := of_decide_eq_true c5, gg := of_decide_eq_true c6, iC := of_decide_eq_true c7, tI := of_decide_eq_true c8, kC := c9, exC := of_decide_eq_true c10, tyC := of_decide_eq_true c11, hdC := c12, ve := of_decide_eq_true c13, self := of_decide_eq_true c14, fn := ?_, code := ?_, cell := ?_, stat := of_decide_eq_true c19, sup0 := PySem.W.mg_none_of X G (He.eqO_ok c20), top0 := t0 }, { hg := of_decide_eq_true c5, hk := of_decide_eq_true c6, hs := of_decide_eq_true c10, hd := c12, ha := of_decide_eq_true c21, hn := of_decide_eq_true c22, ht := of_decide_eq_true c23, hm := of_decide_eq_true c24 }⟩
  · unfold fnH at e
    cases q1 : initFd K d.x with
    | none =>
      rw [q1] at c15
      cases c15
    | some fd =>
      rw [q1] at c15 e
      obtain ⟨w1, w2⟩ := ba c15
      obtain ⟨w3, w4⟩ := ba w2
      have d1 := of_decide_eq_true w1
      have d2 := of_decide_eq_true w3
      have d3 := of_decide_eq_true w4
      clear w1 w2 w3 w4 c15
      have q2 : ∃ oc od osl, K.lookup (iAd K d.x) = some ⟨oc, od, .func fd, osl⟩ := by
        unfold initFd at q1
        split at q1
        · rename_i oc od fd' osl ho
          cases q1
          exact ⟨oc, od, osl, ho⟩
        · cases q1
      obtain ⟨oc, od, osl, ho⟩ := q2
      obtain ⟨n1, n2, n3, n4, n5, n6, n7, n8, n9, n10, n11, n12, n13, n14, n15⟩ := fd
      have e2 : (some (n1, n2, n3, n4, n5, n6, n15) : FnH) = some (("__init__" : Str), d.qual, d.params, FuncBody.stmts d.body, d.scope, mainGlobals, builtinsNs) := e
      simp only [Option.some.injEq, Prod.mk.injEq] at e2
      obtain ⟨h1, h2, h3, h4, h5, h6, h7⟩ := e2
      dsimp only at d1 d2 d3
      subst h1 h2 h3 h4 h5 h6 h7 d1 d2
      exact ⟨oc, od, n8, n9, n10, n11, n12, n14, osl, ho, c16, d3⟩
  · cases q1 : K.lookup (codeAd K d.x) with
    | none =>
      rw [q1] at c17
      cases c17
    | some o =>
      obtain ⟨oc, od, dt, osl⟩ := o
      rw [q1] at c17
      cases dt with
      | fields vs =>
        have c18 : (match (vs : Array Value)[2]? with
          | some (Value.str f _) => decide (f = prog.main.file)
          | _ => false) = true := c17
        cases q2 : vs[2]? with
        | none =>
          rw [q2] at c18
          cases c18
        | some v =>
          rw [q2] at c18
          cases v with
          | str f t =>
            have ef : f = prog.main.file := of_decide_eq_true c18
            rw [ef] at q2
            exact ⟨oc, od, vs, osl, t, rfl, q2⟩
          | _ => cases c18
      | _ => cases c17
  · cases q1 : K.lookup (cellAd K d.x) with
    | none =>
      rw [q1] at c18
      cases c18
    | some o =>
      obtain ⟨oc, od, dt, osl⟩ := o
      rw [q1] at c18
      cases dt with
      | cell v =>
        cases v with
        | none => cases c18
        | some v =>
          cases v with
          | ref C =>
            have ec : C = cAd K d.x := of_decide_eq_true c18
            subst ec
            exact ⟨oc, od, osl, rfl⟩
          | _ => cases c18
      | _ => cases c18
theorem noFld_ok {K : PySem.W.Frag} {d : HallD} (h : noFld K d = true) : PySem.W.findIn K (.ref (cAd K d.x)) d.fld = some none := of_decide_eq_true h
/-! ### the Hook -/
abbrev AlH : Type := He.AlD × Bool × List FnH × List (Option (List (Option (Str × Int))))
def kOf (n : Nat) (g : Addr → Option Obj) : PySem.W.Frag := He.frG g (He.asD g n ++ [cStatics])
def obsH (fa : List He.Fa) (fn : List He.DefD) (hs : List HallD) (ex : PySem.W.Frag → Bool) (ts : List He.Tab) (K : PySem.W.Frag) : AlH := (He.obsD fa fn K, ex K, hs.map fun d => fnH K d.x, ts.map fun t => He.dicW K (t.1 K))
def valH (fn : List He.DefD) (hs : List HallD) (ts : List He.Tab) (w : World) : AlH := (He.valD fn, true, hs.map HallD.val, ts.map fun t => some (He.keysIn w.params t.2))
def obsHG (n : Nat) (fa : List He.Fa) (fn : List He.DefD) (hs : List HallD) (ex : PySem.W.Frag → Bool) (ts : List He.Tab) (g : Addr → Option Obj) : AlH := obsH fa fn hs ex ts (kOf n g)
def SaysH (fa : List He.Fa) (fn : List He.DefD) (hs : List HallD) (ex : PySem.W.Frag → Bool) (ts : List He.Tab) (w : World) (K : PySem.W.Frag) : Prop := obsH fa fn hs ex ts K = valH fn hs ts w
def hookH (n : Nat) (fa : List He.Fa) (fn : List He.DefD) (hs : List HallD) (ex : PySem.W.Frag → Bool) (ts : List He.Tab) : PySem.W.Hook where
  α := AlH
  obs := fun s => obsHG n fa fn hs ex ts s.heap.get?
  val := fun w => valH fn hs ts w
  says := fun w h => ∃ K : PySem.W.Frag, K.In h ∧ SaysH fa fn hs ex ts w K
  of := fun _ _ e => ⟨_, He.frG_in, e⟩
  keeps := fun _ _ _ ⟨K, hK, c⟩ k => ⟨K, PySem.W.Frag.In.keeps hK k, c⟩
theorem obsHG_eq {n : Nat} {fa : List He.Fa} {fn : List He.DefD} {hs : List HallD} {ex : PySem.W.Frag → Bool} {ts : List He.Tab} {g : Addr → Option Obj} {s : Shared} (h : ∀ a, g a = s.heap.get? a) : obsHG n fa fn hs ex ts g = (hookH n fa fn hs ex ts).obs s := by
  have e : g = s.heap.get? := funext h
  rw [e] <;> rfl
section
variable {fa : List He.Fa} {fn : List He.DefD} {hs : List HallD} {ex : PySem.W.Frag → Bool} {ts : List He.Tab} {w : World} {K : PySem.W.Frag}
theorem SaysH.tab (c : SaysH fa fn hs ex ts w K) (i : Nat) {t : He.Tab} (h : ts[i]? = some t := by rfl) : He.dicW K (t.1 K) = some (He.keysIn w.params t.2) := by
  have e : ts.map (fun t => He.dicW K (t.1 K)) = ts.map fun t => some (He.keysIn w.params t.2) := congrArg (fun z : AlH => z.2.2.2) c
  have e2 : (ts.map fun t => He.dicW K (t.1 K))[i]? = (ts.map fun t => some (He.keysIn w.params t.2))[i]? := by rw [e]
  rw [List.getElem?_map, List.getElem?_map, h] at e2
  exact Option.some.inj e2
theorem SaysH.d (c : SaysH fa fn hs ex ts w K) : He.SaysD fa fn K := congrArg (fun z : AlH => z.1) c
theorem SaysH.more (c : SaysH fa fn hs ex ts w K) : ex K = true := congrArg (fun z : AlH => z.2.1) c
theorem SaysH.hall (c : SaysH fa fn hs ex ts w K) (i : Nat) {d : HallD} (h : hs[i]? = some d := by rfl) : fnH K d.x = d.val := by
  have e : hs.map (fun d => fnH K d.x) = hs.map HallD.val := congrArg (fun z : AlH => z.2.2.1) c
  have e2 : (hs.map fun d => fnH K d.x)[i]? = (hs.map HallD.val)[i]? := by rw [e]
  rw [List.getElem?_map, List.getElem?_map, h] at e2
  exact Option.some.inj e2
end
/-- a table of the top with text keys: its keys' answers -/
structure TxtD (K : PySem.W.Frag) (w : World) (d : Addr) (kvs : List (Str × He.Dv)) : Prop where
  ex : ∃ es n, KDict K w d es n
  has : ∀ p ∈ kvs, ∃ u, PySem.W.nsIn K d p.1 = some (some u) ∧ RelV (p.2.v K) u
  not : ∀ z, z ∉ kvs.map (·.1) → PySem.W.nsIn K d z = some none
theorem keys_of {P : Params} : ∀ {l : List DictEntry} {ks : List Str}, l.map He.keyOf = He.keysIn P ks → ∀ e ∈ l, ∃ x t, e.key = .str x t ∧ x ∈ ks
  | [], _, _, e, h => by cases h
  | _ :: _, [], h, _, _ => by cases h
  | e :: r, k :: ks, h, e', he => by
    have h1 : He.keyOf e :: r.map He.keyOf = some (k, PyData.keyHash P k) :: He.keysIn P ks := h
    injection h1 with h2 h3
    rcases List.mem_cons.mp he with rfl | he
    · unfold He.keyOf at h2
      split at h2
      · rename_i x t q
        have h4 := Option.some.inj h2
        obtain ⟨h5, h6⟩ := Prod.mk.inj h4
        exact ⟨x, t, q, by rw [h5]; exact List.mem_cons_self⟩
      · cases h2
    · obtain ⟨x, t, q, m⟩ := keys_of h3 e' he
      exact ⟨x, t, q, List.mem_cons_of_mem _ m⟩
theorem txtD_of {K : PySem.W.Frag} {w : World} {d : Addr} {kvs : List (Str × He.Dv)} (h : He.dicW K d = some (He.keysIn w.params (kvs.map (·.1)))) (hv : He.valsB K d kvs = true) : TxtD K w d kvs := by
  obtain ⟨es, n, D⟩ := He.dicW_ok h
  refine ⟨⟨es, n, D⟩, fun p hp => He.valsB_ok hv hp, fun z hz => ?_⟩
  have h2 : es.toList.map He.keyOf = He.keysIn w.params (kvs.map (·.1)) := by
    unfold He.dicW at h
    rw [D.at_] at h
    dsimp only at h
    split at h
    · exact Option.some.inj h
    · cases h
  have hk := keys_of h2
  unfold PySem.W.nsIn
  rw [D.at_]
  dsimp only
  have e1 : es.toList.find? (·.key.isStr z) = none := by
    rw [List.find?_eq_none]
    intro e he hz'
    obtain ⟨x, t, q, m⟩ := hk e he
    rw [q] at hz'
    have : x = z := by
      have := hz'
      unfold Value.isStr at this
      simpa using this
    subst this
    exact hz m
  rw [e1]
  dsimp only
  have e2 : es.toList.any (·.refKey) = false := by
    rw [List.any_eq_false]
    intro e he hz'
    obtain ⟨x, t, q, m⟩ := hk e he
    unfold DictEntry.refKey at hz'
    rw [q] at hz'
    cases hz'
  rw [e2]
  rfl
/-- the i-th top statement's class: the j-th statement of its body -/
def inCls (s : Stmt) (j : Nat) : Stmt := inClass s j
end HallHt

/-! Words of my own over HandS: promises by arity, callable defs, readings step by step. -/
namespace L2
open PySem PySem.Spec PyProof.Rows
/-! ### promises by the number of arguments -/
def sp1 (P : V → Hp → VK → XK → Prop) : Sp := fun vs H Q E => ∃ a, vs = [a] ∧ P a H Q E
def sp2 (P : V → V → Hp → VK → XK → Prop) : Sp := fun vs H Q E => ∃ a b, vs = [a, b] ∧ P a b H Q E
def sp3 (P : V → V → V → Hp → VK → XK → Prop) : Sp := fun vs H Q E => ∃ a b c, vs = [a, b, c] ∧ P a b c H Q E
def sp4 (P : V → V → V → V → Hp → VK → XK → Prop) : Sp := fun vs H Q E => ∃ a b c d, vs = [a, b, c, d] ∧ P a b c d H Q E
def sp5 (P : V → V → V → V → V → Hp → VK → XK → Prop) : Sp := fun vs H Q E => ∃ a b c d e, vs = [a, b, c, d, e] ∧ P a b c d e H Q E
theorem sp1_len {P} {vs H Q E} (h : sp1 P vs H Q E) : vs.length = 1 := by obtain ⟨_, rfl, _⟩ := h; rfl
theorem sp2_len {P} {vs H Q E} (h : sp2 P vs H Q E) : vs.length = 2 := by obtain ⟨_, _, rfl, _⟩ := h; rfl
theorem sp3_len {P} {vs H Q E} (h : sp3 P vs H Q E) : vs.length = 3 := by obtain ⟨_, _, _, rfl, _⟩ := h; rfl
theorem sp4_len {P} {vs H Q E} (h : sp4 P vs H Q E) : vs.length = 4 := by obtain ⟨_, _, _, _, rfl, _⟩ := h; rfl
theorem sp5_len {P} {vs H Q E} (h : sp5 P vs H Q E) : vs.length = 5 := by obtain ⟨_, _, _, _, _, rfl, _⟩ := h; rfl
/-! ### a def that may be called by its name -/
structure CalX (P : Program) (w : World) (K : PySem.W.Frag) (mg : Str → Option Value) (base : Heap) (CX : CXT) (k : Nat) (x : Str) (sp : Sp) : Prop where
  ex : ∃ (f : Addr) (fd : FuncData) (ps : List Str), FnOk P w K mg base CX k f fd ps sp ∧ mg x = some (.ref f) ∧ PySem.W.keepIn K (.ref f) = true ∧ Binds K fd ps []
section
variable {P : Program} {w : World} {K : PySem.W.Frag} {mg : Str → Option Value} {base : Heap}
/-- a def without try and raise -/
theorem calx0 {x : Str} {params : Arguments} {body : List Stmt} {scope : Scope} {f : Addr} {fd : FuncData} {N ps : List Str} {k : Nat} {sp : Sp} (F : FunD K x x params body scope [] [] f fd) (hm : mg x = some (.ref f)) (S : FnScope N ps scope)
    (b : Binds K fd ps []) (len : ∀ vs H Q E, sp vs H Q E → vs.length = ps.length)
    (hbody : ∀ (cdv : Value) (A : Around) (outer : List Env) (s : Shared) (H : Hp) (vs : List V) (Q : VK) (E : XK), Room k (A.deeper (envOfC x scope s.heap.objs.size f cdv)) → sp vs H Q E →
      ∃ t, PSs (cxOf CX0 P w K mg base N x scope f cdv A outer s H E).nox body t ∧ t { nx := fun _ H' => Q .non H', rt := Q } (start N vs) H) : CalX P w K mg base CX0 (k + 1) x sp :=
  ⟨f, fd, ps, F.ok S len fun cdv A outer s H vs Q E hr h => by
    obtain ⟨t, h1, h2⟩ := hbody cdv A outer s H vs Q E hr h
    exact ⟨t, h1.nox, h2⟩, hm, F.kp, b⟩
theorem calxX {CX : CXT} {x : Str} {params : Arguments} {body : List Stmt} {scope : Scope} {f : Addr} {fd : FuncData} {N ps : List Str} {k : Nat} {sp : Sp} (F : FunD K x x params body scope [] [] f fd) (hm : mg x = some (.ref f)) (S : FnScope N ps scope)
    (b : Binds K fd ps []) (len : ∀ vs H Q E, sp vs H Q E → vs.length = ps.length)
    (hbody : ∀ (cdv : Value) (A : Around) (outer : List Env) (s : Shared) (H : Hp) (vs : List V) (Q : VK) (E : XK), Room k (A.deeper (envOfC x scope s.heap.objs.size f cdv)) → sp vs H Q E →
      ∃ t, PSs (cxOf CX P w K mg base N x scope f cdv A outer s H E) body t ∧ t { nx := fun _ H' => Q .non H', rt := Q } (start N vs) H) : CalX P w K mg base CX (k + 1) x sp :=
  ⟨f, fd, ps, F.ok S len hbody, hm, F.kp, b⟩
end
section
variable {X : Cx} {CX : CXT} {k j : Nat} {x : Str} {sp : Sp} {p pos : Pos} {e : Expr} {es : List Expr} {t : TA} {E : XK} {ES : St → XK}
theorem pe_cx (c : CalX X.prog X.w X.K X.mg X.base CX k x sp) (hr : Room j X.A) (hk : k ≤ j) (hg : Gl X x) (hx : Passes CX X E) (ha : PA X (e :: es) t)
    (hdb : (x == ("__debug__" : Str)) = false := by decide) (he : starEach (e :: es) X.env = (false, eval e X.env) :: starEach es X.env := by rfl) (hpl : (backTo pos (starEach es X.env)).any (·.1) = false := by rfl) :
    PE X (.Call (.Name x p) (e :: es) [] pos) (tCall sp [] E t) := by
  obtain ⟨f, fd, ps, F, hm, kp, b⟩ := c.ex
  exact pe_call F (hr.mono hk) hg hm kp b .nil hx ha hdb he hpl
theorem pe_cx0 (c : CalX X.prog X.w X.K X.mg X.base CX k x sp) (hr : Room j X.A) (hk : k ≤ j) (hg : Gl X x) (hx : Passes CX X E) (hdb : (x == ("__debug__" : Str)) = false := by decide) :
    PE X (.Call (.Name x p) [] [] pos) (tCall sp [] E tNil) := by
  obtain ⟨f, fd, ps, F, hm, kp, b⟩ := c.ex
  exact pe_call0 F (hr.mono hk) hg hm kp b .nil hx hdb
/-- within a try -/
theorem pe_cxS (c : CalX X.prog X.w X.K X.mg X.base CX k x sp) (hr : Room j X.A) (hk : k ≤ j) (hg : Gl X x) (hx : ∀ σ, PassesAt CX X σ (ES σ)) (ha : PA X (e :: es) t)
    (hdb : (x == ("__debug__" : Str)) = false := by decide) (he : starEach (e :: es) X.env = (false, eval e X.env) :: starEach es X.env := by rfl) (hpl : (backTo pos (starEach es X.env)).any (·.1) = false := by rfl) :
    PE X (.Call (.Name x p) (e :: es) [] pos) (tCallS sp ES t) := by
  obtain ⟨f, fd, ps, F, hm, kp, b⟩ := c.ex
  exact pe_callS F (hr.mono hk) hg hm kp b hx ha hdb he hpl
/-- a name of the module, by its value -/
theorem pe_gv {v : V} (h : ∃ u, X.mg x = some u ∧ RelV v u) (hg : Gl X x := by rfl) (hd : (x == ("__debug__" : Str)) = false := by decide) : PE X (.Name x pos) (tC v) := by
  obtain ⟨u, hm, r⟩ := h
  exact pe_glob hg hm r hd
end
/-! ### more operators -/
section
variable {X : Cx}
/-- text * int -/
def rRepS : R2 := fun x y H Q => ∃ z n, x = .str z ∧ y = .int n ∧ MulOk z n ∧ Q (.str (Txt.mul z n)) H
theorem op_repS : OpR X (binaryOp .Mult) rRepS := by
  intro pins s σ H x y u v Q I rx ry h
  obtain ⟨z, n, rfl, rfl, hok, q⟩ := h
  obtain ⟨t, rfl⟩ := rx
  obtain ⟨t', rfl⟩ := ry
  exact SB.mul hok fun t1 k => ⟨.str (Txt.mul z n), H, I.tok _, ⟨_, rfl⟩, q⟩
end
/-! ### readings by name -/
section
variable {X : Cx}
def rCatS : R2 := fun x y H Q => ∃ i j, x = .str i ∧ y = .str j ∧ i.length + j.length ≤ sizeLine ∧ Q (.str (i ++ j)) H
theorem op_catS : OpR X (binaryOp .Add) rCatS := op_add_str
def rAddI : R2 := rI0 fun i j => .int (i + j)
def rSubI : R2 := rI0 fun i j => .int (i - j)
def rMulI : R2 := rI CMul fun i j => .int (i * j)
def rDivI : R2 := rI CDiv fun i j => .int (i / j)
def rModI : R2 := rI (fun _ j => 0 < j) fun i j => .int (i % j)
def rPowI : R2 := rI CPow fun i j => .int (i ^ j.toNat)
def rLtI : R2 := rI0 fun i j => .bl (decide (i < j))
def rLeI : R2 := rI0 fun i j => .bl (decide (i ≤ j))
def rGtI : R2 := rI0 fun i j => .bl (decide (j < i))
def rGeI : R2 := rI0 fun i j => .bl (decide (j ≤ i))
theorem op_addI : OpR X (binaryOp .Add) rAddI := op_add
theorem op_subI : OpR X (binaryOp .Sub) rSubI := op_sub
theorem op_mulI : OpR X (binaryOp .Mult) rMulI := op_mul
theorem op_divI : OpR X (binaryOp .FloorDiv) rDivI := op_fdiv
theorem op_modI : OpR X (binaryOp .Mod) rModI := op_mod
theorem op_powI : OpR X (binaryOp .Pow) rPowI := op_pow
theorem op_ltI : OpR X (compareOp .Lt) rLtI := op_lt
theorem op_leI : OpR X (compareOp .LtE) rLeI := op_le
theorem op_gtI : OpR X (compareOp .Gt) rGtI := op_gt
theorem op_geI : OpR X (compareOp .GtE) rGeI := op_ge
/-- one sign in a text -/
def rInC : R2 := fun x y H Q => ∃ (c : Nat) (z : Str), x = .str ⟨#[c]⟩ ∧ y = .str z ∧ Q (.bl (decide (c ∈ z.cps.toList))) H
def rNotInC : R2 := fun x y H Q => ∃ (c : Nat) (z : Str), x = .str ⟨#[c]⟩ ∧ y = .str z ∧ Q (.bl (!decide (c ∈ z.cps.toList))) H
theorem op_inC : OpR X (compareOp .In) rInC := op_in_sign
theorem op_notInC : OpR X (compareOp .NotIn) rNotInC := op_notIn_sign
def rLenQ (K : PySem.W.Frag) : List V → Hp → VK → Prop := fun xs H Q => ∃ p ys, xs = [.ref p] ∧ (SqL K H p ys ∨ SqT K H p ys) ∧ Q (.int ys.length) H
def rLenT : List V → Hp → VK → Prop := fun xs H Q => ∃ z : Str, xs = [.str z] ∧ z.length ≤ sizeLine ∧ Q (.int z.length) H
theorem call_lenQ : CallR X (.builtin "len") (rLenQ X.K) := call_len_seq
theorem call_lenT : CallR X (.builtin "len") rLenT := call_len_str
def rAbsI : List V → Hp → VK → Prop := fun xs H Q => ∃ i, xs = [.int i] ∧ Q (.int (if i < 0 then -i else i)) H
theorem call_absI : CallR X (.builtin "abs") rAbsI := call_abs
def rMaxI : List V → Hp → VK → Prop := fun xs H Q => ∃ i j, xs = [.int i, .int j] ∧ Q (.int (if j > i then j else i)) H
def rMinI : List V → Hp → VK → Prop := fun xs H Q => ∃ i j, xs = [.int i, .int j] ∧ Q (.int (if j < i then j else i)) H
theorem call_maxI (hc : X.calm = true) : CallR X (.builtin "max") rMaxI := call_max2 hc
theorem call_minI (hc : X.calm = true) : CallR X (.builtin "min") rMinI := call_min2 hc
def rIntI : List V → Hp → VK → Prop := fun xs H Q => ∃ i, xs = [.int i] ∧ Q (.int i) H
theorem call_intI : CallR X (.type "int") rIntI := fun pins s σ H xs us Q I r ⟨i, e, q⟩ => call_int1 pins s σ H xs us Q I r (.inl ⟨i, e, q⟩)
def rTupL (K : PySem.W.Frag) : List V → Hp → VK → Prop := fun xs H Q => ∃ p ys, xs = [.ref p] ∧ SqL K H p ys ∧ ∀ l, H l = none → Q (.ref l) (upd H l (.tup ys))
theorem call_tupL : CallR X (.type "tuple") (rTupL X.K) := fun pins s σ H xs us Q I r ⟨p, ys, e, h, q⟩ => call_tuple_of pins s σ H xs us Q I r ⟨p, ys, e, .inl ⟨h, q⟩⟩
def rLstQ (K : PySem.W.Frag) : List V → Hp → VK → Prop := fun xs H Q => ∃ p ys, xs = [.ref p] ∧ (SqL K H p ys ∨ SqT K H p ys) ∧ ∀ l, H l = none → Q (.ref l) (upd H l (.lst ys))
theorem call_lstQ : CallR X (.type "list") (rLstQ X.K) := call_list_of
/-- a list of the call's own -/
abbrev rIxTu := rIxT
end
/-! ### steps -/
section
variable {σ : St} {H : Hp} {i : Nat} {v x y z : V} {ta tb tc te : TE} {tt uu : TT} {tA tR : TA} {Q : VK} {QB : Bool → Hp → Prop} {QA : List V → Hp → Prop} {QO : Option Int → Hp → Prop} {D : Ends} {t u : TS} {g : TG} {r r' : R2} {K : PySem.W.Frag}
theorem w_var (e : σ[i]? = some (some v)) (h : Q v H) : tVar i σ H Q := ⟨v, e, h⟩
theorem w_c (h : Q v H) : tC v σ H Q := h
theorem w_op (h : ta σ H fun x H1 => tb σ H1 fun y H2 => r x y H2 Q) : tOp r ta tb σ H Q := h
theorem w_un {ru : V → Hp → VK → Prop} (h : ta σ H fun x H1 => ru x H1 Q) : tUn ru ta σ H Q := h
theorem w_seq (h : t { D with nx := u D } σ H) : tSeq t u D σ H := h
theorem w_next (h : D.nx σ H) : tNext D σ H := h
theorem w_brk (h : D.bk σ H) : tBreak D σ H := h
theorem w_cnt (h : D.ct σ H) : tCont D σ H := h
theorem w_asgN (h : te σ H fun x H1 => D.nx (σ.set i (some x)) H1) : tAsg te (gName i) D σ H := h
theorem w_asg (h : te σ H fun x H1 => g x σ H1 D.nx) : tAsg te g D σ H := h
theorem w_aug {ti : TIp} (e : σ[i]? = some (some x)) (h : te σ H fun y H1 => ti x y H1 fun z H2 => D.nx (σ.set i (some z)) H2) : tAug i te ti D σ H := ⟨x, e, h⟩
theorem w_ipI {f : Int → Int → Int} {a b : Int} (h : Q (.int (f a b)) H) : ipI f (.int a) (.int b) H Q := ⟨a, b, rfl, rfl, h⟩
theorem w_ret (h : te σ H D.rt) : tRet te D σ H := h
theorem w_retN (h : D.rt .non H) : tRetN D σ H := h
theorem w_drop (h : te σ H fun _ H1 => D.nx σ H1) : tDrop te D σ H := h
theorem w_ifS (h : tt σ H fun b H1 => if b = true then t D σ H1 else u D σ H1) : tIfS tt t u D σ H := h
theorem w_if (h : tt σ H fun b H1 => if b = true then ta σ H1 Q else tb σ H1 Q) : tIf tt ta tb σ H Q := h
theorem w_test (h : te σ H fun x H' => ∃ k, x = .bl k ∧ QB k H') : tTest te σ H QB := h
theorem w_tB (h : te σ H fun x H' => ∃ k, x = .bl k ∧ QB k H') : tB te σ H QB := h
theorem w_bl {b : Bool} {F : Bool → Prop} (h : F b) : ∃ k, V.bl b = .bl k ∧ F k := ⟨b, rfl, h⟩
theorem w_and (h : tt σ H fun c H1 => if c = true then uu σ H1 QB else QB false H1) : tAnd tt uu σ H QB := h
theorem w_or (h : tt σ H fun c H1 => if c = true then QB true H1 else uu σ H1 QB) : tOr tt uu σ H QB := h
theorem w_not (h : tt σ H fun c H1 => QB (!c) H1) : tNot tt σ H QB := h
theorem w_andV (h : ta σ H fun x H1 => ∃ c, x = .bl c ∧ if c = true then tb σ H1 Q else Q (.bl false) H1) : tAndV ta tb σ H Q := h
theorem w_orV (h : ta σ H fun x H1 => ∃ c, x = .bl c ∧ if c = true then Q (.bl true) H1 else tb σ H1 Q) : tOrV ta tb σ H Q := h
theorem w_notV (h : ta σ H fun x H1 => ∃ c, x = .bl c ∧ Q (.bl (!c)) H1) : tNotV ta σ H Q := h
theorem w_blI {b : Bool} {F : Bool → Prop} (h : F b) : ∃ c, V.bl b = .bl c ∧ F c := ⟨b, rfl, h⟩
theorem w_nil (h : QA [] H) : tNil σ H QA := h
theorem w_cons (h : te σ H fun x H1 => tR σ H1 fun xs H2 => QA (x :: xs) H2) : tCons te tR σ H QA := h
theorem w_cb {rc : List V → Hp → VK → Prop} (h : tA σ H fun vs H1 => rc vs H1 Q) : tCB rc tA σ H Q := h
theorem w_call {sp : Sp} {E : XK} (h : tA σ H fun vs H1 => sp vs H1 Q E) : tCall sp [] E tA σ H Q := by
  have e : tCall sp [] E tA σ H Q = tA σ H fun vs H1 => sp (vs ++ []) H1 Q E := rfl
  rw [e]
  simpa only [List.append_nil] using h
theorem w_callS {sp : Sp} {ES : St → XK} (h : tA σ H fun vs H1 => sp vs H1 Q (ES σ)) : tCallS sp ES tA σ H Q := h
theorem w_chain (h : ta σ H fun x H1 => tb σ H1 fun y H2 => r x y H2 fun z H3 => ∃ k, z = .bl k ∧ (if k = true then tc σ H3 fun w' H4 => r' y w' H4 Q else Q (.bl false) H3)) : tChain r r' ta tb tc σ H Q := h
theorem w_tup (h : tA σ H fun xs H1 => xs.length ≤ sizeLine ∧ ∀ p, H1 p = none → Q (.ref p) (upd H1 p (.tup xs))) : tTup tA σ H Q := h
theorem w_lst (h : tA σ H fun xs H1 => xs.length ≤ sizeLine ∧ ∀ p, H1 p = none → Q (.ref p) (upd H1 p (.lst xs))) : tLst tA σ H Q := h
theorem w_new {vs : List V} {F : Addr → Prop} (hz : vs.length ≤ 4096) (h : ∀ p, H p = none → F p) : vs.length ≤ sizeLine ∧ ∀ p, H p = none → F p := ⟨Nat.le_trans hz (by decide), h⟩
theorem w_sl {rs : V → Option Int → Option Int → Hp → VK → Prop} {tl th : TO} (h : te σ H fun x H1 => tl σ H1 fun l H2 => th σ H2 fun u H3 => rs x l u H3 Q) : tSl rs te tl th σ H Q := h
theorem w_noPart (h : QO none H) : tNoPart σ H QO := h
theorem w_part (h : te σ H fun x H1 => ∃ i, x = .int i ∧ QO (some i) H1) : tPart te σ H QO := h
theorem w_partI {n : Int} {F : Int → Prop} (h : F n) : ∃ i, V.int n = .int i ∧ F i := ⟨n, rfl, h⟩
theorem w_I0 {f : Int → Int → V} {a b : Int} (h : Q (f a b) H) : rI0 f (.int a) (.int b) H Q := ⟨a, b, rfl, rfl, h⟩
theorem w_addI {a b : Int} (h : Q (.int (a + b)) H) : rAddI (.int a) (.int b) H Q := ⟨a, b, rfl, rfl, h⟩
theorem w_subI {a b : Int} (h : Q (.int (a - b)) H) : rSubI (.int a) (.int b) H Q := ⟨a, b, rfl, rfl, h⟩
theorem w_mulI {a b : Int} (hc : CMul a b) (h : Q (.int (a * b)) H) : rMulI (.int a) (.int b) H Q := ⟨a, b, rfl, rfl, hc, h⟩
theorem w_divI {a b : Int} (hc : CDiv a b) (h : Q (.int (a / b)) H) : rDivI (.int a) (.int b) H Q := ⟨a, b, rfl, rfl, hc, h⟩
theorem w_modI {a b : Int} (hc : 0 < b) (h : Q (.int (a % b)) H) : rModI (.int a) (.int b) H Q := ⟨a, b, rfl, rfl, hc, h⟩
theorem w_powI {a b : Int} (hc : CPow a b) (h : Q (.int (a ^ b.toNat)) H) : rPowI (.int a) (.int b) H Q := ⟨a, b, rfl, rfl, hc, h⟩
theorem w_ltI {a b : Int} (h : Q (.bl (decide (a < b))) H) : rLtI (.int a) (.int b) H Q := ⟨a, b, rfl, rfl, h⟩
theorem w_leI {a b : Int} (h : Q (.bl (decide (a ≤ b))) H) : rLeI (.int a) (.int b) H Q := ⟨a, b, rfl, rfl, h⟩
theorem w_gtI {a b : Int} (h : Q (.bl (decide (b < a))) H) : rGtI (.int a) (.int b) H Q := ⟨a, b, rfl, rfl, h⟩
theorem w_geI {a b : Int} (h : Q (.bl (decide (b ≤ a))) H) : rGeI (.int a) (.int b) H Q := ⟨a, b, rfl, rfl, h⟩
theorem w_eqI {a b : Int} (h : Q (.bl (decide (a = b))) H) : rEq (.int a) (.int b) H Q := ⟨rfl, by
  have e : decide (V.int a = V.int b) = decide (a = b) := by simp
  rw [e]; exact h⟩
theorem w_neI {a b : Int} (h : Q (.bl (!decide (a = b))) H) : rNe (.int a) (.int b) H Q := ⟨rfl, by
  have e : decide (V.int a = V.int b) = decide (a = b) := by simp
  rw [e]; exact h⟩
theorem w_eqS {a b : Str} (h : Q (.bl (decide (a = b))) H) : rEq (.str a) (.str b) H Q := ⟨rfl, by
  have e : decide (V.str a = V.str b) = decide (a = b) := by simp
  rw [e]; exact h⟩
theorem w_neS {a b : Str} (h : Q (.bl (!decide (a = b))) H) : rNe (.str a) (.str b) H Q := ⟨rfl, by
  have e : decide (V.str a = V.str b) = decide (a = b) := by simp
  rw [e]; exact h⟩
theorem w_catS {a b : Str} (hz : a.length + b.length ≤ sizeLine) (h : Q (.str (a ++ b)) H) : rCatS (.str a) (.str b) H Q := ⟨a, b, rfl, rfl, hz, h⟩
theorem w_repS {a : Str} {n : Int} (hz : MulOk a n) (h : Q (.str (Txt.mul a n)) H) : rRepS (.str a) (.int n) H Q := ⟨a, n, rfl, rfl, hz, h⟩
theorem w_inC {c : Nat} {z : Str} (h : Q (.bl (decide (c ∈ z.cps.toList))) H) : rInC (.str ⟨#[c]⟩) (.str z) H Q := ⟨c, z, rfl, rfl, h⟩
theorem w_notInC {c : Nat} {z : Str} (h : Q (.bl (!decide (c ∈ z.cps.toList))) H) : rNotInC (.str ⟨#[c]⟩) (.str z) H Q := ⟨c, z, rfl, rfl, h⟩
theorem w_lenT {z : Str} (hz : z.length ≤ sizeLine) (h : Q (.int z.length) H) : rLenT [.str z] H Q := ⟨z, rfl, hz, h⟩
theorem w_lenL {p : Addr} {ys : List V} (hs : SqL K H p ys) (h : Q (.int ys.length) H) : rLenQ K [.ref p] H Q := ⟨p, ys, rfl, .inl hs, h⟩
theorem w_lenU {p : Addr} {ys : List V} (hs : SqT K H p ys) (h : Q (.int ys.length) H) : rLenQ K [.ref p] H Q := ⟨p, ys, rfl, .inr hs, h⟩
theorem w_absI {a : Int} (h : Q (.int (if a < 0 then -a else a)) H) : rAbsI [.int a] H Q := ⟨a, rfl, h⟩
theorem w_intI {a : Int} (h : Q (.int a) H) : rIntI [.int a] H Q := ⟨a, rfl, h⟩
theorem w_maxI {a b : Int} (h : Q (.int (if b > a then b else a)) H) : rMaxI [.int a, .int b] H Q := ⟨a, b, rfl, h⟩
theorem w_minI {a b : Int} (h : Q (.int (if b < a then b else a)) H) : rMinI [.int a, .int b] H Q := ⟨a, b, rfl, h⟩
theorem w_ixL {p : Addr} {xs : List V} {n : Nat} (hs : SqL K H p xs) (e : xs[n]? = some v) (h : Q v H) : rIxL K (.ref p) (.int (n : Int)) H Q := ⟨p, xs, n, v, rfl, rfl, hs, atI_nat e, h⟩
theorem w_ixU {p : Addr} {xs : List V} {n : Nat} (hs : SqT K H p xs) (e : xs[n]? = some v) (h : Q v H) : rIxT K (.ref p) (.int (n : Int)) H Q := ⟨p, xs, n, v, rfl, rfl, hs, atI_nat e, h⟩
theorem w_ixS {l : List Nat} {n : Nat} {c : Nat} (hz : l.length ≤ sizeLine) (e : l[n]? = some c) (h : Q (.str ⟨#[c]⟩) H) : rIxS (.str (SX.S l)) (.int (n : Int)) H Q := ⟨_, _, c, rfl, rfl, by rw [SX.S_len]; exact hz, atI_nat e, h⟩
theorem w_setL {p : Addr} {xs : List V} {k : Nat} {F : Hp → Prop} (hp : H p = some (.lst xs)) (hk : k < xs.length) (h : F (upd H p (.lst (xs.set k v)))) : rSetL (.ref p) (.int (k : Int)) v H F :=
  ⟨p, xs, k, k, rfl, rfl, hp, by unfold ixN; rw [if_pos (by omega), if_pos (by omega)]; rfl, h⟩
theorem w_gSub {ts : TSet} {F : St → Hp → Prop} (h : ta σ H fun o H1 => tb σ H1 fun i H2 => ts o i v H2 fun H3 => F σ H3) : gSub ta tb ts v σ H F := h
theorem w_bm {T : String} {rm : V → List V → Hp → VK → Prop} (h : te σ H fun x H1 => tyV K T x H1 ∧ tA σ H1 fun xs H2 => rm x xs H2 Q) : tBM K T rm te tA σ H Q := h
theorem w_bm0 {T : String} {rm : V → List V → Hp → VK → Prop} (h : te σ H fun x H1 => tyV K T x H1 ∧ rm x [] H1 Q) : tBM0 K T rm te σ H Q := h
theorem w_lstTy {p : Addr} {xs : List V} {F : Prop} (hp : H p = some (.lst xs)) (h : F) : tyV K "list" (.ref p) H ∧ F := ⟨.inl ⟨rfl, _, SqL.of hp⟩, h⟩
theorem w_app {p : Addr} {xs : List V} (hp : H p = some (.lst xs)) (hz : xs.length < sizeLine) (h : Q .non (upd H p (.lst (xs ++ [v])))) : rAppend (.ref p) [v] H Q := ⟨p, xs, v, rfl, rfl, hp, hz, h⟩
theorem w_dec {p : Prop} {inst : Decidable p} {A B : Prop} (h1 : p → A) (h2 : ¬ p → B) : if @decide p inst = true then A else B := by
  by_cases h : p
  · rw [if_pos (decide_eq_true h)]; exact h1 h
  · rw [if_neg (by simp [h])]; exact h2 h
theorem w_ndec {p : Prop} {inst : Decidable p} {A B : Prop} (h1 : ¬ p → A) (h2 : p → B) : if (!@decide p inst) = true then A else B := by
  by_cases h : p
  · rw [if_neg (by simp [h])]; exact h2 h
  · rw [if_pos (by simp [h])]; exact h1 h
theorem w_b {b : Bool} {A B : Prop} (h1 : b = true → A) (h2 : b = false → B) : if b = true then A else B := by
  cases b with
  | true => rw [if_pos rfl]; exact h1 rfl
  | false => rw [if_neg Bool.false_ne_true]; exact h2 rfl
theorem w_t {A B : Prop} (h : A) : if true = true then A else B := by rw [if_pos rfl]; exact h
theorem w_f {A B : Prop} (h : B) : if false = true then A else B := by rw [if_neg Bool.false_ne_true]; exact h
end
theorem w_nt {A B : Prop} (h : B) : if (!true) = true then A else B := h
theorem w_nf {A B : Prop} (h : A) : if (!false) = true then A else B := h
section
variable {f b c : St → Hp → Prop} {r : VK} {σ : St} {H : Hp} {v : V}
theorem w_nx (h : f σ H) : Ends.nx ⟨f, r, b, c⟩ σ H := h
theorem w_rt (h : r v H) : Ends.rt ⟨f, r, b, c⟩ v H := h
theorem w_bk (h : b σ H) : Ends.bk ⟨f, r, b, c⟩ σ H := h
theorem w_ct (h : c σ H) : Ends.ct ⟨f, r, b, c⟩ σ H := h
end
/-- the body of a def, its slots written out -/
theorem start1 (n : Str) (N : List Str) (v : V) : start (n :: N) [v] = some v :: List.replicate N.length none := rfl
/-- a word between a statement and the rest -/
theorem w_mid {t u : TS} {D : Ends} {σ : St} {H : Hp} (Mid : St → Hp → Prop) (h : t { D with nx := Mid } σ H) (k : ∀ σ' H', Mid σ' H' → u D σ' H') : Evl.tCut t u D σ H := ⟨Mid, h, k⟩
/-! ### loops -/
section
variable {σ : St} {H : Hp} {v : V} {te : TE} {tA : TA} {tc : TT} {D : Ends} {tb : TS} {g : TG} {wi : TI} {K : PySem.W.Frag} {R : It → Hp → Prop}
theorem w_for (h : wi σ H fun J H1 => ∃ W : Nat → Nat → St → Hp → Prop, (∃ m, W 0 m σ H1) ∧ ∀ i m σ H, W i m σ H →
    (J.stop i H ∧ D.nx σ H) ∨ (J.go i H ∧ ∃ N : St → Hp → Prop, (∀ σ' H', N σ' H' → ∃ m', m' < m ∧ W (i + 1) m' σ' H') ∧ ∀ x H', J.yld i H x H' → g x σ H' fun σ2 H2 => tb { D with nx := N, ct := N, bk := D.nx } σ2 H2)) : tFor wi g tb D σ H := h
theorem w_iR1 (h : tA σ H fun vs H1 => ∃ j : Int, vs = [.int j] ∧ -(2 ^ 62) ≤ j ∧ j < 2 ^ 62 ∧ R (Itr 0 j.toNat) H1) : iRng1 tA σ H R := h
theorem w_iR2 (h : tA σ H fun vs H1 => ∃ i j : Int, vs = [.int i, .int j] ∧ (-(2 ^ 62) ≤ i ∧ i < 2 ^ 62 ∧ -(2 ^ 62) ≤ j ∧ j < 2 ^ 62) ∧ R (Itr i (j - i).toNat) H1) : iRng2 tA σ H R := h
theorem w_rg1 {n : Int} {F : Int → Prop} (h1 : -(2 ^ 62) ≤ n) (h2 : n < 2 ^ 62) (h : F n) : ∃ j : Int, [V.int n] = [.int j] ∧ -(2 ^ 62) ≤ j ∧ j < 2 ^ 62 ∧ F j := ⟨n, rfl, h1, h2, h⟩
theorem w_rg2 {a b : Int} {F : Int → Int → Prop} (h1 : -(2 ^ 62) ≤ a ∧ a < 2 ^ 62 ∧ -(2 ^ 62) ≤ b ∧ b < 2 ^ 62) (h : F a b) : ∃ i j : Int, [V.int a, V.int b] = [.int i, .int j] ∧ (-(2 ^ 62) ≤ i ∧ i < 2 ^ 62 ∧ -(2 ^ 62) ≤ j ∧ j < 2 ^ 62) ∧ F i j := ⟨a, b, rfl, h1, h⟩
theorem w_iStr (h : te σ H fun v H1 => ∃ x, v = .str x ∧ R (Its x) H1) : iStr te σ H R := h
theorem w_strI {z : Str} {F : Str → Prop} (h : F z) : ∃ x, V.str z = .str x ∧ F x := ⟨z, rfl, h⟩
theorem w_iList (h : te σ H fun x H1 => ∃ a, x = .ref a ∧ (∃ xs, SqL K H1 a xs) ∧ R (Itl K a) H1) : iList K te σ H R := h
theorem w_lstI {a : Addr} {xs : List V} {F : Addr → Prop} (hs : SqL K H a xs) (h : F a) : ∃ b, V.ref a = .ref b ∧ (∃ xs, SqL K H b xs) ∧ F b := ⟨a, rfl, ⟨xs, hs⟩, h⟩
theorem w_iTup (h : te σ H fun x H1 => ∃ a, x = .ref a ∧ (∃ xs, SqT K H1 a xs) ∧ R (Itt K a) H1) : iTup K te σ H R := h
theorem w_tupI {a : Addr} {xs : List V} {F : Addr → Prop} (hs : SqT K H a xs) (h : F a) : ∃ b, V.ref a = .ref b ∧ (∃ xs, SqT K H b xs) ∧ F b := ⟨a, rfl, ⟨xs, hs⟩, h⟩
theorem for_str {l : List Nat} (Pv : Nat → St → Hp → Prop) (h0 : Pv 0 σ H)
    (hs : ∀ i c σ H, l[i]? = some c → Pv i σ H → g (.str ⟨#[c]⟩) σ H fun σ2 H2 => tb { D with nx := Pv (i + 1), ct := Pv (i + 1), bk := D.nx } σ2 H2) (hd : ∀ σ H, Pv l.length σ H → D.nx σ H) :
    ∃ W : Nat → Nat → St → Hp → Prop, (∃ m, W 0 m σ H) ∧ ∀ i m σ H, W i m σ H →
      ((Its (SX.S l)).stop i H ∧ D.nx σ H) ∨ ((Its (SX.S l)).go i H ∧ ∃ N : St → Hp → Prop, (∀ σ' H', N σ' H' → ∃ m', m' < m ∧ W (i + 1) m' σ' H') ∧ ∀ x H', (Its (SX.S l)).yld i H x H' → g x σ H' fun σ2 H2 => tb { D with nx := N, ct := N, bk := D.nx } σ2 H2) := by
  have sz : (SX.S l).cps.size = l.length := by simp [SX.S]
  refine ⟨fun i m σ H => m = l.length - i ∧ i ≤ l.length ∧ Pv i σ H, ⟨l.length, by simp, Nat.zero_le _, h0⟩, ?_⟩
  rintro i m σ H ⟨rfl, hi, p⟩
  by_cases hlt : i < l.length
  · refine .inr ⟨by show i < (SX.S l).cps.size; rw [sz]; exact hlt, Pv (i + 1), fun σ' H' p' => ⟨l.length - (i + 1), by omega, rfl, hlt, p'⟩, fun x H' y => ?_⟩
    obtain ⟨e, c, hc, rfl⟩ := y
    subst e
    refine hs i c σ _ ?_ p
    have : (SX.S l).cps[i]? = some c := hc
    simpa [SX.S] using this
  · have e : i = l.length := by omega
    subst e
    exact .inl ⟨by show (SX.S l).cps.size ≤ l.length; rw [sz]; exact Nat.le_refl _, hd σ H p⟩
theorem w_whl (W : Nat → St → Hp → Prop) (m0 : Nat) (h0 : W m0 σ H) (hs : ∀ m σ H, W m σ H → tc σ H fun b H1 => if b = true then ∃ N : St → Hp → Prop, (∀ σ' H', N σ' H' → ∃ m', m' < m ∧ W m' σ' H') ∧ tb { D with nx := N, ct := N, bk := D.nx } σ H1 else D.nx σ H1) : tWhile tc tb D σ H :=
  ⟨W, ⟨m0, h0⟩, hs⟩
theorem w_turn {W : Nat → St → Hp → Prop} {m : Nat} (h : tb { D with nx := fun σ' H' => ∃ m', m' < m ∧ W m' σ' H', ct := fun σ' H' => ∃ m', m' < m ∧ W m' σ' H', bk := D.nx } σ H) : ∃ N : St → Hp → Prop, (∀ σ' H', N σ' H' → ∃ m', m' < m ∧ W m' σ' H') ∧ tb { D with nx := N, ct := N, bk := D.nx } σ H := ⟨_, fun _ _ z => z, h⟩
end
/-! ### texts -/
theorem S_eq {a b : List Nat} : SX.S a = SX.S b ↔ a = b := ⟨SX.S_inj, fun e => by rw [e]⟩
theorem S_ofs {s : String} {l : List Nat} (h : (Str.ofString s).cps.toList = l) : Str.ofString s = SX.S l := by
  rw [← h, SX.S_tl]
theorem S_get (l : List Nat) : (SX.S l).cps.toList = l := by simp [SX.S]
theorem inV_S (a : List Nat) : ∀ rs : List (List Nat), inV (.str (SX.S a)) (rs.map fun r => V.str (SX.S r)) = decide (a ∈ rs)
  | [] => rfl
  | r :: rs => by
    have ih := inV_S a rs
    unfold inV at ih ⊢
    rw [List.map_cons, List.any_cons, ih]
    show ((SX.S r == SX.S a) || decide (a ∈ rs)) = decide (a ∈ r :: rs)
    rw [SX.S_beq_eq]
    by_cases h : a = r
    · subst h; simp
    · have h' : ¬ r = a := fun z => h z.symm
      simp [h, h']
theorem flat_S (rs : List (List Nat)) : (rs.map fun r => V.str (SX.S r)).all flatV = true := by
  rw [List.all_map]
  exact List.all_eq_true.mpr fun _ _ => rfl
/-- x in a table of texts -/
theorem w_inTab {K : PySem.W.Frag} {H : Hp} {Q : VK} {p : Addr} {a : List Nat} {xs : List V} {rs : List (List Nat)} (hs : SqT K H p xs) (e : xs = rs.map fun r => V.str (SX.S r)) (h : Q (.bl (decide (a ∈ rs))) H) : rIn K false (.str (SX.S a)) (.ref p) H Q := by
  subst e
  refine ⟨p, _, rfl, .inr hs, rfl, flat_S rs, ?_⟩
  rw [inV_S]
  exact h
theorem w_inLst {K : PySem.W.Frag} {H : Hp} {Q : VK} {p : Addr} {a : List Nat} {xs : List V} {rs : List (List Nat)} (hs : SqL K H p xs) (e : xs = rs.map fun r => V.str (SX.S r)) (h : Q (.bl (decide (a ∈ rs))) H) : rIn K false (.str (SX.S a)) (.ref p) H Q := by
  subst e
  refine ⟨p, _, rfl, .inl hs, rfl, flat_S rs, ?_⟩
  rw [inV_S]
  exact h
/-- slices of texts: a whole number from 0 on, on both sides -/
theorem cut_S (l : List Nat) (a b : Option Nat) : cutS (SX.S l) (a.map Int.ofNat) (b.map Int.ofNat) = SX.S ((l.drop (a.getD 0)).take (b.getD l.length - a.getD 0)) := by
  have hl : (SX.S l).length = l.length := SX.S_len l
  have six : ∀ (n d : Nat) (o : Option Nat), d ≤ n → HT.sIx n d (o.map Int.ofNat) = min (o.getD d) n := by
    intro n d o hd
    cases o with
    | none => show d = min d n; omega
    | some k => exact HT.sIx_nat n d k
  unfold cutS
  rw [hl, six _ _ _ (Nat.zero_le _), six _ _ _ (Nat.le_refl _), S_get]
  congr 1
  apply congrArg
  apply List.ext_getElem?
  intro i
  simp only [List.getElem?_take, List.getElem?_drop]
  by_cases h1 : i < min (b.getD l.length) l.length - min (a.getD 0) l.length
  · rw [if_pos h1, if_pos (by omega), show min (a.getD 0) l.length + i = a.getD 0 + i by omega]
  · rw [if_neg h1]
    by_cases h2 : i < b.getD l.length - a.getD 0
    · rw [if_pos h2, List.getElem?_eq_none (by omega)]
    · rw [if_neg h2]
theorem w_cutS {H : Hp} {Q : VK} {l : List Nat} {a b : Nat} (hz : l.length ≤ sizeLine) (h : Q (.str (SX.S ((l.drop a).take (b - a)))) H) : rSlS (.str (SX.S l)) (some (a : Int)) (some (b : Int)) H Q :=
  ⟨_, rfl, by rw [SX.S_len]; exact hz, by have e := cut_S l (some a) (some b); rw [show (some (a : Int)) = (some a).map Int.ofNat from rfl, show (some (b : Int)) = (some b).map Int.ofNat from rfl, e]; exact h⟩
theorem w_cutTo {H : Hp} {Q : VK} {l : List Nat} {b : Nat} (hz : l.length ≤ sizeLine) (h : Q (.str (SX.S (l.take b))) H) : rSlS (.str (SX.S l)) none (some (b : Int)) H Q :=
  ⟨_, rfl, by rw [SX.S_len]; exact hz, by have e := cut_S l none (some b); rw [show (none : Option Int) = (none : Option Nat).map Int.ofNat from rfl, show (some (b : Int)) = (some b).map Int.ofNat from rfl, e]; exact h⟩
theorem w_cutFrom {H : Hp} {Q : VK} {l : List Nat} {a : Nat} (hz : l.length ≤ sizeLine) (h : Q (.str (SX.S (l.drop a))) H) : rSlS (.str (SX.S l)) (some (a : Int)) none H Q :=
  ⟨_, rfl, by rw [SX.S_len]; exact hz, by
    have e := cut_S l (some a) none
    rw [show (some (a : Int)) = (some a).map Int.ofNat from rfl, show (none : Option Int) = (none : Option Nat).map Int.ofNat from rfl, e]
    have z : (l.drop ((some a).getD 0)).take ((none : Option Nat).getD l.length - (some a).getD 0) = l.drop a := by
      show (l.drop a).take (l.length - a) = l.drop a
      exact List.take_of_length_le (by rw [List.length_drop]; omega)
    rw [z]; exact h⟩
theorem S_app (a b : List Nat) : SX.S a ++ SX.S b = SX.S (a ++ b) := SX.S_cat a b
theorem w_catT {H : Hp} {Q : VK} {a b : List Nat} (hz : a.length + b.length ≤ sizeLine) (h : Q (.str (SX.S (a ++ b))) H) : rCatS (.str (SX.S a)) (.str (SX.S b)) H Q := ⟨_, _, rfl, rfl, by rw [SX.S_len, SX.S_len]; exact hz, by rw [S_app]; exact h⟩
theorem w_lenS {H : Hp} {Q : VK} {l : List Nat} (hz : l.length ≤ sizeLine) (h : Q (.int (l.length : Int)) H) : rLenT [.str (SX.S l)] H Q := ⟨_, rfl, by rw [SX.S_len]; exact hz, by rw [SX.S_len]; exact h⟩
theorem w_eqT {H : Hp} {Q : VK} {a b : List Nat} (h : Q (.bl (decide (a = b))) H) : rEq (.str (SX.S a)) (.str (SX.S b)) H Q := ⟨rfl, by
  have e : decide (V.str (SX.S a) = V.str (SX.S b)) = decide (a = b) := by
    by_cases z : a = b
    · subst z; simp
    · simp only [V.str.injEq, S_eq]
  rw [e]; exact h⟩
theorem w_neT {H : Hp} {Q : VK} {a b : List Nat} (h : Q (.bl (!decide (a = b))) H) : rNe (.str (SX.S a)) (.str (SX.S b)) H Q := ⟨rfl, by
  have e : decide (V.str (SX.S a) = V.str (SX.S b)) = decide (a = b) := by
    by_cases z : a = b
    · subst z; simp
    · simp only [V.str.injEq, S_eq]
  rw [e]; exact h⟩
theorem w_inS {H : Hp} {Q : VK} {c : Nat} {l : List Nat} (h : Q (.bl (decide (c ∈ l))) H) : rInC (.str ⟨#[c]⟩) (.str (SX.S l)) H Q := ⟨c, _, rfl, rfl, by rw [S_get]; exact h⟩
theorem w_ninS {H : Hp} {Q : VK} {c : Nat} {l : List Nat} (h : Q (.bl (!decide (c ∈ l))) H) : rNotInC (.str ⟨#[c]⟩) (.str (SX.S l)) H Q := ⟨c, _, rfl, rfl, by rw [S_get]; exact h⟩
theorem flatten_rep (xs : Array Nat) : ∀ (n : Nat) (acc : Array Nat), ((List.replicate n xs).foldl (· ++ ·) acc).toList = acc.toList ++ (List.replicate n xs.toList).flatten
  | 0, acc => by simp
  | n + 1, acc => by
    rw [List.replicate_succ, List.foldl_cons, flatten_rep xs n, Array.toList_append, List.replicate_succ, List.flatten_cons, List.append_assoc]
theorem mul_S (l : List Nat) (n : Nat) : Txt.mul (SX.S l) (n : Int) = SX.S ((List.replicate n l).flatten) := by
  unfold Txt.mul
  by_cases h1 : (n : Int) < 1
  · rw [if_pos h1]
    have e : n = 0 := by omega
    subst e; rfl
  · rw [if_neg h1]
    by_cases h2 : ((n : Int) == 1 || (SX.S l).length == 0) = true
    · rw [if_pos h2]
      rw [Bool.or_eq_true, beq_iff_eq, beq_iff_eq, SX.S_len] at h2
      rcases h2 with h2 | h2
      · have e : n = 1 := by omega
        subst e; simp
      · have e : l = [] := List.length_eq_zero_iff.mp h2
        subst e
        have z : (List.replicate n ([] : List Nat)).flatten = [] := by simp
        rw [z]
    · rw [if_neg h2, Int.toNat_natCast]
      have e := flatten_rep (SX.S l).cps n #[]
      rw [S_get] at e
      show (⟨_⟩ : Str) = SX.S _
      apply TL.ext_tl
      show ((List.replicate n (SX.S l).cps).foldl (· ++ ·) #[]).toList = _
      rw [e]
      simp [TL.tl, SX.S]
theorem w_repT {H : Hp} {Q : VK} {l : List Nat} {n : Nat} (hz : l.length * n ≤ 1000000) (h : Q (.str (SX.S ((List.replicate n l).flatten))) H) (hn : n ≤ 1000000 := by omega) : rRepS (.str (SX.S l)) (.int (n : Int)) H Q := by
  refine ⟨_, _, rfl, rfl, ⟨?_, fun h1 h2 => ?_, fun h1 h2 => ?_⟩, by rw [mul_S]; exact h⟩
  · rw [decide_eq_false (by omega), decide_eq_false (by omega)]; rfl
  · rw [SX.S_len]
    have h3 : (0 : Int) < n := by omega
    have h4 : (l.length : Int) * n ≤ 1000000 := by
      have z : ((l.length * n : Nat) : Int) ≤ ((1000000 : Nat) : Int) := Int.ofNat_le.mpr hz
      rw [Int.natCast_mul] at z
      exact z
    have h5 : (l.length : Int) ≤ (2 ^ 63 - 1) / (n : Int) := Int.le_ediv_of_mul_le h3 (by omega)
    omega
  · rw [SX.S_len, Int.toNat_natCast]
    show decide (l.length * n > sizeLine) = false
    rw [sizeLine_eq]
    exact decide_eq_false (by omega)
/-! ### isinstance -/
theorem w_isi {K : PySem.W.Frag} {H : Hp} {Q : VK} {x : V} {t : Value} {n : String} {b : Bool} (ty : TyX K H x t) (k : PySem.W.kitOne K t (.type n) = some b) (h : Q (.bl b) H) : rIsi K [x, .ty n] H Q := ⟨x, .ty n, t, .type n, b, rfl, .ty n, ty, k, h⟩
theorem kit_ss {K : PySem.W.Frag} : PySem.W.kitOne K (.type "str") (.type "str") = some true := kit_ty (by decide +kernel)
theorem kit_ii {K : PySem.W.Frag} : PySem.W.kitOne K (.type "int") (.type "int") = some true := kit_ty (by decide +kernel)
theorem kit_ib {K : PySem.W.Frag} : PySem.W.kitOne K (.type "int") (.type "bool") = some false := kit_ty (by decide +kernel)
theorem kit_tt {K : PySem.W.Frag} : PySem.W.kitOne K (.type "tuple") (.type "tuple") = some true := kit_ty (by decide +kernel)
end L2

/-! Steps for comprehensions, list slices, list sums. -/
namespace L2
open PySem PySem.Spec PyProof.Rows
section
variable {σ : St} {H : Hp} {Q : VK} {QB : Bool → Hp → Prop} {K : PySem.W.Frag} {D : Ends}
theorem w_yes (h : QB true H) : tYes σ H QB := h
theorem w_lc {wi : TI} {g : TG} {tt : TT} {te : TE} {vs : List Nat} (h : wi σ H fun J H1 => ∀ D, H1 D = none → ∃ W : Nat → Nat → Hp → Prop, (∃ m, W 0 m (upd H1 D (.lst []))) ∧ ∀ i m H, W i m H →
  (J.stop i H ∧ Q (.ref D) H) ∨ (J.go i H ∧ ∃ Nx : Hp → Prop, (∀ H', Nx H' → ∃ m', m' < m ∧ W (i + 1) m' H') ∧ ∀ x H', J.yld i H x H' → g x (wipe σ vs) H' fun σ2 H2 => wipe σ2 vs = wipe σ vs ∧ tt σ2 H2 fun b H3 =>
    if b = true then te σ2 H3 fun y H4 => ∃ acc, H4 D = some (.lst acc) ∧ acc.length < sizeLine ∧ Nx (upd H4 D (.lst (acc ++ [y]))) else Nx H3)) : tLc wi g tt te vs σ H Q := h
theorem w_neg {f : Int → V} {a : Int} (h : Q (f a) H) : rU f (.int a) H Q := ⟨a, rfl, h⟩
theorem cut_V (l : List V) (a b : Option Nat) : cutV l (a.map Int.ofNat) (b.map Int.ofNat) = (l.drop (a.getD 0)).take (b.getD l.length - a.getD 0) := by
  have six : ∀ (n d : Nat) (o : Option Nat), d ≤ n → HT.sIx n d (o.map Int.ofNat) = min (o.getD d) n := by
    intro n d o hd
    cases o with
    | none => show d = min d n; omega
    | some k => exact HT.sIx_nat n d k
  unfold cutV
  rw [six _ _ _ (Nat.zero_le _), six _ _ _ (Nat.le_refl _)]
  apply List.ext_getElem?
  intro i
  simp only [List.getElem?_take, List.getElem?_drop]
  by_cases h1 : i < min (b.getD l.length) l.length - min (a.getD 0) l.length
  · rw [if_pos h1, if_pos (by omega), show min (a.getD 0) l.length + i = a.getD 0 + i by omega]
  · rw [if_neg h1]
    by_cases h2 : i < b.getD l.length - a.getD 0
    · rw [if_pos h2, List.getElem?_eq_none (by omega)]
    · rw [if_neg h2]
theorem cut_to (l : List V) (b : Nat) : cutV l none (some (b : Int)) = l.take b := cut_V l none (some b)
theorem cut_from (l : List V) (a : Nat) : cutV l (some (a : Int)) none = l.drop a := by
  have e := cut_V l (some a) none
  have z : (l.drop ((some a).getD 0)).take ((none : Option Nat).getD l.length - (some a).getD 0) = l.drop a := by
    show (l.drop a).take (l.length - a) = l.drop a
    exact List.take_of_length_le (by rw [List.length_drop]; omega)
  rw [z] at e
  exact e
theorem cut_mid (l : List V) (a b : Nat) : cutV l (some (a : Int)) (some (b : Int)) = (l.drop a).take (b - a) := cut_V l (some a) (some b)
theorem w_lTo {p : Addr} {l : List V} {b : Nat} (hs : SqL K H p l) (h : ∀ q, H q = none → Q (.ref q) (upd H q (.lst (l.take b)))) : rSlL K (.ref p) none (some (b : Int)) H Q := ⟨p, l, rfl, hs, by rw [cut_to]; exact h⟩
theorem w_lFrom {p : Addr} {l : List V} {a : Nat} (hs : SqL K H p l) (h : ∀ q, H q = none → Q (.ref q) (upd H q (.lst (l.drop a)))) : rSlL K (.ref p) (some (a : Int)) none H Q := ⟨p, l, rfl, hs, by rw [cut_from]; exact h⟩
theorem w_lMid {p : Addr} {l : List V} {a b : Nat} (hs : SqL K H p l) (h : ∀ q, H q = none → Q (.ref q) (upd H q (.lst ((l.drop a).take (b - a))))) : rSlL K (.ref p) (some (a : Int)) (some (b : Int)) H Q := ⟨p, l, rfl, hs, by rw [cut_mid]; exact h⟩
theorem w_catL {p q : Addr} {xs zs : List V} (hp : H p = some (.lst xs)) (hq : H q = some (.lst zs)) (hz : xs.length + zs.length ≤ sizeLine) (h : ∀ t, H t = none → Q (.ref t) (upd H t (.lst (xs ++ zs)))) : rCat (.ref p) (.ref q) H Q := ⟨p, q, xs, zs, rfl, rfl, hp, hq, hz, h⟩
end
end L2

/-! Objects, texts' methods, dicts: more words of my own over HandS. -/
namespace L2
open PySem PySem.Spec PyProof.Rows SX TL PySem.StrLaws PySem.Builtin.Str
/-! ### methods and makers that may be called -/
structure MetX (P : Program) (w : World) (K : PySem.W.Frag) (mg : Str → Option Value) (base : Heap) (CX : CXT) (k : Nat) (C : Addr) (m : Str) (sp : Sp) : Prop where
  ex : ∃ (f : Addr) (fd : FuncData) (ps : List Str), FnOk P w K mg base CX k f fd ps sp ∧ Meth K C m f ∧ Binds K fd ps []
structure MakX (P : Program) (w : World) (K : PySem.W.Frag) (mg : Str → Option Value) (base : Heap) (CX : CXT) (k : Nat) (C : Addr) (sp : Sp) : Prop where
  ex : ∃ (f : Addr) (fd : FuncData) (ps : List Str), FnOk P w K mg base CX k f fd ps sp ∧ Mk K C f ∧ Binds K fd ps []
section
variable {X : Cx} {CX : CXT} {k j : Nat} {C : Addr} {x m : Str} {sp : Sp} {p pos apos : Pos} {e o : Expr} {es : List Expr} {ta : TE} {t : TA} {E : XK}
theorem pe_mx {pl : Sem Bool} (M : MetX X.prog X.w X.K X.mg X.base CX k C m sp) (he : PE X o ta) (c : Cls X.K C) (hr : Room j X.A) (hk : k ≤ j) (hx : Passes CX X E) (ha : PA X (e :: es) t)
    (hst : starEach (e :: es) X.env = (false, eval e X.env) :: starEach es X.env := by rfl) (hpl : (backTo pos (starEach es X.env)).any (·.1) = false := by rfl)
    (ht : eval (.Call (.Attribute o m apos) (e :: es) [] pos) X.env = (do
      let ov ← eval o X.env
      standAt apos.atName
      let (f, first) ← holding [ov] (getMethod ov m pl)
      callWith pos f first (backTo pos (starEach (e :: es) X.env)) (backToKw pos (keywordEach [] X.env))) := by rfl) :
    PE X (.Call (.Attribute o m apos) (e :: es) [] pos) (tMeth C m sp [] E ta t) := by
  obtain ⟨f, fd, ps, F, hm, b⟩ := M.ex
  exact pe_meth he c hm F (hr.mono hk) b .nil hx ha hst hpl ht
theorem pe_mx0 {pl : Sem Bool} (M : MetX X.prog X.w X.K X.mg X.base CX k C m sp) (he : PE X o ta) (c : Cls X.K C) (hr : Room j X.A) (hk : k ≤ j) (hx : Passes CX X E)
    (ht : eval (.Call (.Attribute o m apos) [] [] pos) X.env = (do
      let ov ← eval o X.env
      standAt apos.atName
      let (f, first) ← holding [ov] (getMethod ov m pl)
      callWith pos f first (backTo pos (starEach [] X.env)) (backToKw pos (keywordEach [] X.env))) := by rfl) :
    PE X (.Call (.Attribute o m apos) [] [] pos) (tMeth C m sp [] E ta tNil) := by
  obtain ⟨f, fd, ps, F, hm, b⟩ := M.ex
  exact pe_meth0 he c hm F (hr.mono hk) b .nil hx ht
theorem pe_mk (M : MakX X.prog X.w X.K X.mg X.base CX k C sp) (hr : Room j X.A) (hk : k + 1 ≤ j) (hg : Gl X x) (hm : X.mg x = some (.ref C)) (hx : Passes CX X E)
    (ha : PA X (e :: es) t) (hdb : (x == ("__debug__" : Str)) = false := by decide) (he : starEach (e :: es) X.env = (false, eval e X.env) :: starEach es X.env := by rfl) (hpl : (backTo pos (starEach es X.env)).any (·.1) = false := by rfl) :
    PE X (.Call (.Name x p) (e :: es) [] pos) (tMake C sp [] E t) := by
  obtain ⟨f, fd, ps, F, M, b⟩ := M.ex
  exact pe_make M F (hr.mono hk) hg hm b .nil hx ha hdb he hpl
/-- a def that lets a callee's exception out -/
theorem passE {E : XK} {E₁ : Value → Shared → Prop} (hs : X.stack = X.env :: X.outer) (hf : X.env.frame = some X.env.locals) (hex : X.ex = [])
    (hx : X.xe = fun e s' => wpAny (model X.prog X.w) X.A (leaving X.env e) (fun _ s'' => L2.CX X.prog X.w X.outer X.H_0 X.s_0 E e s'') E₁ s') : Passes (L2.CX X.prog X.w) X E :=
  passes_call (takes_of hs hf hex hx) fun _ _ _ _ h => h
end
section
variable {P : Program} {w : World} {K : PySem.W.Frag} {mg : Str → Option Value} {base : Heap}
theorem metx {CX : CXT} {m q : Str} {params : Arguments} {body : List Stmt} {scope : Scope} {C f : Addr} {fd : FuncData} {N ps : List Str} {k : Nat} {sp : Sp} (F : FunD K m q params body scope [] [] f fd) (hm : Meth K C m f) (S : FnScope N ps scope)
    (b : Binds K fd ps []) (len : ∀ vs H Q E, sp vs H Q E → vs.length = ps.length)
    (hbody : ∀ (cdv : Value) (A : Around) (outer : List Env) (s : Shared) (H : Hp) (vs : List V) (Q : VK) (E : XK), Room k (A.deeper (envOfC q scope s.heap.objs.size f cdv)) → sp vs H Q E →
      ∃ t, PSs (cxOf CX P w K mg base N q scope f cdv A outer s H E) body t ∧ t { nx := fun _ H' => Q .non H', rt := Q } (start N vs) H) : MetX P w K mg base CX (k + 1) C m sp :=
  ⟨f, fd, ps, F.ok S len hbody, hm, b⟩
theorem makx {CX : CXT} {q : Str} {params : Arguments} {body : List Stmt} {scope : Scope} {C f : Addr} {fd : FuncData} {N ps : List Str} {k : Nat} {sp : Sp} (F : FunD K "__init__" q params body scope [] [] f fd) (hm : Mk K C f) (S : FnScope N ps scope)
    (b : Binds K fd ps []) (len : ∀ vs H Q E, sp vs H Q E → vs.length = ps.length)
    (hbody : ∀ (cdv : Value) (A : Around) (outer : List Env) (s : Shared) (H : Hp) (vs : List V) (Q : VK) (E : XK), Room k (A.deeper (envOfC q scope s.heap.objs.size f cdv)) → sp vs H Q E →
      ∃ t, PSs (cxOf CX P w K mg base N q scope f cdv A outer s H E) body t ∧ t { nx := fun _ H' => Q .non H', rt := Q } (start N vs) H) : MakX P w K mg base CX (k + 1) C sp :=
  ⟨f, fd, ps, F.ok S len hbody, hm, b⟩
end
/-! ### isinstance of the caught error and a tuple of classes -/
def rIsEdT (K : PySem.W.Frag) (a : Addr) (cls : Value) (d : Option Addr) : List V → Hp → VK → Prop := fun xs H Q => ∃ (tp : Addr) (cs : List V) (ws : List Value) (b : Bool) (D dd : Addr) (fs : List (Str × V)), xs = [.ref a, .ref tp] ∧ H tp = some (.tup cs) ∧ Paired ClsV cs ws ∧ cls = .ref D ∧ ExcC K D ∧ d = some dd ∧ H dd = some (.xd fs) ∧
  PySem.W.kitAny K (.ref D) ws = some b ∧ Q (.bl b) H
theorem call_isEdT {X : Cx} {a : Addr} {cls : Value} {d : Option Addr} {oe : Obj} {pn : List (Addr × Obj)} (hz : Zc cls d oe) (hf : ∃ vs, oe.data = .fields vs) : CallR (X.suite a ((a, oe) :: pn)) (.builtin "isinstance") (rIsEdT X.K a cls d) := by
  intro pins s σ H xs us Q I r h
  obtain ⟨tp, cs, ws, b, D, dd, fs, rfl, hT, hcs, rfl, C, rfl, hdd, e, q⟩ := h
  cases r with
  | cons rx rr =>
    cases rr with
    | cons rt rr =>
      cases rr
      cases rx
      cases rt
      obtain ⟨_, its, rv, o, h1, h2, n, h3⟩ := (show ObjOk X.prog X.w H s.heap tp (.tup cs) from I.hok tp _ hT)
      have e3 := ClsV.all hcs rv
      subst e3
      obtain ⟨oc, od, dt, sl⟩ := o
      simp only at h2 h3
      subst h2 h3
      obtain ⟨hget, _⟩ := I.pin (a, oe) (List.mem_append.mpr (.inl List.mem_cons_self))
      obtain ⟨vs, hv⟩ := hf
      have hx : ObjOk X.prog X.w H s.heap dd (.xd fs) := I.hok dd _ hdd
      obtain ⟨mA, hns, hr⟩ := hx
      obtain ⟨od, ho, hl⟩ := lookIn_ns hns
      have J : PySem.W.InstAt s.heap a oe D (some od) := ⟨hget, hz.1, by unfold PySem.W.notCls; rw [hv] <;> rfl, by rw [hz.2]; exact ho⟩
      have hcl : (PySem.W.clsIn X.K D).isSome = true := by
        obtain ⟨cd, hc, _⟩ := PySem.W.any_some C.hd
        rw [hc] <;> rfl
      exact PySem.W.kia_tup (PySem.W.kitx_exc hcl C.hg C.hk C.hs C.ha C.hn C.ht C.hm) I.kIn J h1 e (fun z => nomatch z) fun tk => ⟨.bl b, H, I.kept (t' := tk) fun _ _ z => z, rfl, q⟩
/-! ### xs.count(x), texts -/
def eqs (k : Str) : Value → Bool
  | .str x _ => x.cps.toList == k.cps.toList
  | _ => false
def rCntS (K : PySem.W.Frag) : V → List V → Hp → VK → Prop := fun x xs H Q => ∃ (p : Addr) (ns : List (List Nat)) (k : List Nat), x = .ref p ∧ xs = [.str (S k)] ∧ SqL K H p (ns.map fun r => V.str (S r)) ∧ Q (.int (ns.count k : Nat)) H
theorem eqs_gives {k : List Nat} {t : Tok} : ∀ {ns : List (List Nat)} {us : List Value}, Vals (ns.map fun r => V.str (S r)) us → ∀ y ∈ us, MeetsSeq.EqGives y (.str (S k) t) (eqs (S k) y)
  | [], _, .nil, y, h => by cases h
  | n :: ns, _, .cons r rs, y, h => by
    rcases List.mem_cons.mp h with e | e
    · obtain ⟨t', rfl⟩ := r
      rw [e]
      exact SeqRoads2.EqGives.str (S n) (S k) t' t
    · exact eqs_gives rs y e
theorem eqs_count {k : List Nat} : ∀ {ns : List (List Nat)} {us : List Value}, Vals (ns.map fun r => V.str (S r)) us → us.countP (eqs (S k)) = ns.count k
  | [], _, .nil => rfl
  | n :: ns, _, .cons r rs => by
    obtain ⟨t', rfl⟩ := r
    rw [List.countP_cons, List.count_cons, eqs_count rs]
    congr 1
theorem mt_lcountS {X : Cx} : MtR X "list.count" (rCntS X.K) := by
  intro pins s σ H x xs v us Q I rx rxs h
  obtain ⟨p, ns, k, rfl, rfl, hs, q⟩ := h
  cases rx
  obtain ⟨u, rfl, ru⟩ := rxs.one
  obtain ⟨t, rfl⟩ := ru
  obtain ⟨its, rv, ⟨⟨cls, dd, data, sl⟩, n, ho, hc, hdn, hd⟩, hlen⟩ := I.list hs
  simp only at hc hd
  subst hc hd
  refine call_meets PySem.F.slot_list_count ⟨_, ho, rfl⟩ PySem.F.entry_list_count (PySem.F.args_list_count_2 _ _)
    (SeqAt.list_countAt p its.toArray n dd sl (.str (S k) t) (eqs (S k))) ⟨ho, fun y hy => (eqs_gives rv y (by simpa using hy)).at _ _, ?_⟩
  have ec : its.toArray.toList.countP (eqs (S k)) = ns.count k := eqs_count rv
  refine ⟨.int (ns.count k : Nat), H, I.tok _, ⟨s.toks, ?_⟩, q⟩
  show Value.int ((its.toArray.toList.countP (eqs (S k)) : Nat) : Int) s.toks = Value.int ((ns.count k : Nat) : Int) s.toks
  rw [ec]
/-! ### int(flag) -/
def rIntB : List V → Hp → VK → Prop := fun xs H Q => ∃ k, xs = [.bl k] ∧ Q (.int (if k then 1 else 0)) H
theorem call_intB {X : Cx} : CallR X (.type "int") rIntB := fun pins s σ H xs us Q I r ⟨k, e, q⟩ => call_int1 pins s σ H xs us Q I r (.inr ⟨k, e, q⟩)
/-! ### texts -/
def strp (l : List Nat) : List Nat := ((l.dropWhile (· == 32)).reverse.dropWhile (· == 32)).reverse
theorem tl_S (l : List Nat) : tl (S l) = l := S_get l
theorem strip_S (l : List Nat) : Txt.stripChars (S l) (S [32]) = S (strp l) := by
  have hg : ∀ c, (S [32]).cps.contains c = (c == 32) := fun c => by
    show (#[32] : Array Nat).contains c = _
    simp [Array.contains]
  have hg' : (S [32]).cps.contains = fun c => c == 32 := funext hg
  have dw : ∀ l : List Nat, l.dropWhile (· == 32) = l.drop (l.takeWhile (· == 32)).length := fun l => by
    induction l with
    | nil => rfl
    | cons c r ih =>
      by_cases h : c = 32
      · subst h; rw [List.dropWhile_cons_of_pos (by rfl), List.takeWhile_cons_of_pos (by rfl), List.length_cons, List.drop_succ_cons]; exact ih
      · rw [List.dropWhile_cons_of_neg (by simpa using h), List.takeWhile_cons_of_neg (by simpa using h)]; rfl
  have key : tl (stripped (S [32]).cps.contains true true (S l)) = strp l := by
    unfold stripped
    rw [tl_strSub, hg']
    unfold stripLo stripHi
    rw [if_pos rfl, if_pos rfl, S_get, S_len]
    unfold strp
    rw [dw l, dw ((l.drop _).reverse), List.drop_reverse, List.reverse_reverse]
    congr 1
    have h1 : (List.takeWhile (· == 32) l).length ≤ l.length := (List.takeWhile_sublist _).length_le
    rw [List.length_drop]
    omega
  unfold Txt.stripChars Txt.stripBy
  by_cases h : stripSame (S [32]).cps.contains true true (S l) = true
  · rw [if_pos h]
    refine ext_tl ?_
    rw [tl_S (strp l), ← key]
    unfold stripSame at h
    rw [Bool.and_eq_true, beq_iff_eq, beq_iff_eq] at h
    unfold stripped
    rw [h.2, h.1]
    have := tl_strSub_end (S l) 0
    rw [this]; rfl
  · rw [if_neg h]
    refine ext_tl ?_
    rw [tl_S (strp l), key]
def spl32 (l : List Nat) : List (List Nat) := spl [32] 0 [] l
theorem split_S (l : List Nat) (c : Nat) (hc : c < 256) : Txt.split (S l) (S [c]) = (spl [c] 0 [] l).map S := by
  refine map_tl_inj ?_
  have hk : (S [c]).cps.all (· < 256) = true := by
    show (#[c] : Array Nat).all (· < 256) = true
    simp [hc]
  rw [split_spl _ _ (by rw [tl_S]; simp) (kind_ok hk), tl_S, tl_S, List.map_map]
  have : (tl ∘ S) = id := funext fun z => tl_S z
  rw [this, List.map_id]
theorem part_S (l : List Nat) (c : Nat) : Txt.partition (S l) (S [c]) = (match par [c] [] l with | some (a, b) => (S a, S [c], S b) | none => (S l, S [], S [])) := by
  rw [partition_par _ _ (by rw [tl_S]; simp), tl_S, tl_S]
  rfl
theorem start_S (l : List Nat) (c : Nat) : Txt.startswith (S l) (S [c]) = decide (l[0]? = some c) := by
  unfold Txt.startswith
  rw [S_len, S_len, subAt_eq, S_len]
  have e1 : tl (S l) = l := tl_S l
  have e2 : tl (S [c]) = [c] := tl_S [c]
  show (decide (0 + 1 ≤ l.length) && (((tl (S l)).drop 0).take 1 == tl (S [c]))) = _
  rw [e1, e2]
  cases l with
  | nil => rfl
  | cons d r => simp; exact Bool.beq_eq_decide_eq d c
theorem join_S (c : Nat) (ls : List (List Nat)) : Txt.join (S [c]) (ls.map S) = S (joinL [c] ls) := by
  refine ext_tl ?_
  rw [join_eq, tl_join, tl_S, tl_S, List.map_map]
  have : (tl ∘ S) = id := funext fun z => tl_S z
  rw [this, List.map_id]
def rSplitS : V → List V → Hp → VK → Prop := fun x xs H Q => ∃ (l : List Nat) (c : Nat), x = .str (S l) ∧ xs = [.str (S [c])] ∧ c < 256 ∧ l.length + 2 ≤ sizeLine ∧ ∀ p, H p = none → Q (.ref p) (upd H p (.lst ((spl [c] 0 [] l).map fun r => V.str (S r))))
theorem mt_splitS {X : Cx} : MtR X "str.split" rSplitS := fun pins s σ H x xs v us Q I rx rs ⟨l, c, e1, e2, hc, hz, h⟩ =>
  mt_split pins s σ H x xs v us Q I rx rs ⟨S l, S [c], e1, e2, rfl, by rw [S_len]; exact hz, fun p hp => by
    have := h p hp
    rw [split_S l c hc, List.map_map]; exact this⟩
def rStripS : V → List V → Hp → VK → Prop := fun x xs H Q => ∃ l : List Nat, x = .str (S l) ∧ xs = [.str (S [32])] ∧ l.length ≤ sizeLine ∧ Q (.str (S (strp l))) H
theorem mt_stripS {X : Cx} : MtR X "str.strip" rStripS := fun pins s σ H x xs v us Q I rx rs ⟨l, e1, e2, hz, h⟩ =>
  mt_stripChars pins s σ H x xs v us Q I rx rs ⟨S l, S [32], e1, e2, by rw [S_len]; exact hz, by rw [strip_S]; exact h⟩
def rPartS : V → List V → Hp → VK → Prop := fun x xs H Q => ∃ (l : List Nat) (c : Nat), x = .str (S l) ∧ xs = [.str (S [c])] ∧ l.length ≤ sizeLine ∧
  ∀ p, H p = none → Q (.ref p) (upd H p (.tup (match par [c] [] l with | some (a, b) => [.str (S a), .str (S [c]), .str (S b)] | none => [.str (S l), .str (S []), .str (S [])])))
theorem mt_partS {X : Cx} : MtR X "str.partition" rPartS := fun pins s σ H x xs v us Q I rx rs ⟨l, c, e1, e2, hz, h⟩ =>
  mt_partition pins s σ H x xs v us Q I rx rs ⟨S l, S [c], e1, e2, rfl, by rw [S_len]; exact hz, fun p hp => by
    have := h p hp
    rw [part_S]
    cases e : par [c] [] l with
    | none => rw [e] at this; exact this
    | some q => rw [e] at this; exact this⟩
def rStartS : V → List V → Hp → VK → Prop := fun x xs H Q => ∃ (l : List Nat) (c : Nat), x = .str (S l) ∧ xs = [.str (S [c])] ∧ Q (.bl (decide (l[0]? = some c))) H
theorem mt_startS {X : Cx} : MtR X "str.startswith" rStartS := fun pins s σ H x xs v us Q I rx rs ⟨l, c, e1, e2, h⟩ =>
  mt_startswith pins s σ H x xs v us Q I rx rs ⟨S l, S [c], e1, e2, by rw [start_S]; exact h⟩
def rJoinS (K : PySem.W.Frag) : V → List V → Hp → VK → Prop := fun x xs H Q => ∃ (c : Nat) (p : Addr) (ls : List (List Nat)), x = .str (S [c]) ∧ xs = [.ref p] ∧ SqL K H p (ls.map fun r => V.str (S r)) ∧ (ls.map (·.length)).sum + ls.length ≤ 16777216 ∧ Q (.str (S (joinL [c] ls))) H
theorem mt_joinS {X : Cx} : MtR X "str.join" (rJoinS X.K) := fun pins s σ H x xs v us Q I rx rs ⟨c, p, ls, e1, e2, hp, hz, h⟩ =>
  mt_join pins s σ H x xs v us Q I rx rs ⟨S [c], p, ls.map S, e1, e2, .inl (by rw [List.map_map]; exact hp), by
    rw [List.map_map, List.length_map, S_len]
    have : ((fun x : Str => x.length) ∘ S) = List.length := funext fun z => S_len z
    rw [this]; simpa using hz, by rw [join_S]; exact h⟩
/-! ### tables of the top with text keys -/
section
variable {X : Cx} {d : Addr} {kvs : List (Str × He.Dv)}
def rInTD (d : Addr) (kvs : List (Str × He.Dv)) : R2 := fun x y H Q => ∃ z : Str, x = .str z ∧ y = .ref d ∧ Q (.bl (decide (z ∈ kvs.map (·.1)))) H
def rNotInTD (d : Addr) (kvs : List (Str × He.Dv)) : R2 := fun x y H Q => ∃ z : Str, x = .str z ∧ y = .ref d ∧ Q (.bl (!decide (z ∈ kvs.map (·.1)))) H
theorem ns_TD {K : PySem.W.Frag} {w : World} (D : HallHt.TxtD K w d kvs) (z : Str) : ∃ r : Option Value, PySem.W.nsIn K d z = some r ∧ r.isSome = decide (z ∈ kvs.map (·.1)) := by
  by_cases h : z ∈ kvs.map (·.1)
  · obtain ⟨p, hp, rfl⟩ := List.mem_map.mp h
    obtain ⟨u, e, _⟩ := D.has p hp
    exact ⟨_, e, by rw [decide_eq_true h]; rfl⟩
  · exact ⟨_, D.not z h, by rw [decide_eq_false h]; rfl⟩
theorem op_inTD (D : HallHt.TxtD X.K X.w d kvs) : OpR X (compareOp .In) (rInTD d kvs) := by
  obtain ⟨es, n, KD⟩ := D.ex
  intro pins s σ H x y v u Q I rx ry ⟨z, e1, e2, q⟩
  obtain ⟨r, h1, h2⟩ := ns_TD D z
  exact op_in_kd KD pins s σ H x y v u Q I rx ry ⟨z, r, e1, e2, h1, by rw [h2]; exact q⟩
theorem op_notInTD (D : HallHt.TxtD X.K X.w d kvs) : OpR X (compareOp .NotIn) (rNotInTD d kvs) := by
  obtain ⟨es, n, KD⟩ := D.ex
  intro pins s σ H x y v u Q I rx ry ⟨z, e1, e2, q⟩
  obtain ⟨r, h1, h2⟩ := ns_TD D z
  exact op_notIn_kd KD pins s σ H x y v u Q I rx ry ⟨z, r, e1, e2, h1, by rw [h2]; exact q⟩
def rGetTD (K : PySem.W.Frag) (d : Addr) (kvs : List (Str × He.Dv)) : R2 := fun x y H Q => ∃ p ∈ kvs, x = .ref d ∧ y = .str p.1 ∧ Q (p.2.v K) H
theorem op_getTD (D : HallHt.TxtD X.K X.w d kvs) : OpR X getItem (rGetTD X.K d kvs) := by
  obtain ⟨es, n, KD⟩ := D.ex
  intro pins s σ H x y v u Q I rx ry ⟨p, hp, e1, e2, q⟩
  obtain ⟨u0, h1, h2⟩ := D.has p hp
  exact op_item_kd KD pins s σ H x y v u Q I rx ry ⟨p.1, u0, _, e1, e2, h1, h2, q⟩
theorem ix_TD (D : HallHt.TxtD X.K X.w d kvs) : IxR X (rGetTD X.K d kvs) := by
  obtain ⟨es, n, KD⟩ := D.ex
  intro value slice pins s σ H x y v u Q I rx ry h hs
  obtain ⟨p, hp, e1, e2, q⟩ := h
  subst e1
  cases rx
  exact tail_any (kd_type KD I) PySem.F.slot_dict_getitem.lookup (op_getTD D pins s σ H (.ref d) y _ u Q I rfl ry ⟨p, hp, rfl, e2, q⟩) hs
end
end L2

/-! More steps: fields, texts' methods, dicts, last items, powers, tuples. -/
namespace L2
open PySem PySem.Spec PyProof.Rows SX TL
def CPowN (i j : Int) : Prop := 0 ≤ j ∧ (Builtin.Int.intBits i : Int) * j ≤ 2 ^ 27
def rPowN : R2 := rI CPowN fun i j => .int (i ^ j.toNat)
theorem op_powN {X : Cx} : OpR X (binaryOp .Pow) rPowN := opI fun _ _ _ _ _ _ _ hc q => pow_int hc.1 hc.2 q
section
variable {σ : St} {H : Hp} {i : Nat} {v x y z : V} {ta tb tc te tv : TE} {tt uu : TT} {tA tR : TA} {Q : VK} {QB : Bool → Hp → Prop} {QA : List V → Hp → Prop} {D : Ends} {t u : TS} {g : TG} {K : PySem.W.Frag}
theorem w_powN {a b : Int} (hc : CPowN a b) (h : Q (.int (a ^ b.toNat)) H) : rPowN (.int a) (.int b) H Q := ⟨a, b, rfl, rfl, hc, h⟩
theorem w_intB {k : Bool} (h : Q (.int (if k then 1 else 0)) H) : rIntB [.bl k] H Q := ⟨k, rfl, h⟩
theorem w_fld {f : Str} (h : ta σ H fun x H1 => ∃ a C dx fs v, x = .ref a ∧ H1 a = some (.ins C dx fs) ∧ Cls K C ∧ NoAttr K C f ∧ fs.lookup f = some v ∧ Q v H1) : tFld K ta f σ H Q := h
theorem w_fldA {R : V → Prop} {a C dx : Addr} {fs : List (Str × V)} {f : Str} (e : H a = some (.ins C dx fs)) (c : Cls K C) (n : NoAttr K C f) (l : fs.lookup f = some v) (h : R v) : ∃ a' C' dx' fs' v', V.ref a = .ref a' ∧ H a' = some (.ins C' dx' fs') ∧ Cls K C' ∧ NoAttr K C' f ∧ fs'.lookup f = some v' ∧ R v' := ⟨a, C, dx, fs, v, rfl, e, c, n, l, h⟩
theorem w_setf {f : Str} (h : tv σ H fun y H1 => ta σ H1 fun x H2 => ∃ a C dx fs, x = .ref a ∧ H2 a = some (.ins C dx fs) ∧ Cls K C ∧ NoAttr K C f ∧ fs.length < 1000 ∧ D.nx σ (upd H2 a (.ins C dx (putF f y fs)))) : sFld K ta tv f D σ H := h
theorem w_setfA {R : Addr → Addr → Addr → List (Str × V) → Prop} {a C dx : Addr} {fs : List (Str × V)} {f : Str} (e : H a = some (.ins C dx fs)) (c : Cls K C) (n : NoAttr K C f) (l : fs.length < 1000) (h : R a C dx fs) : ∃ a' C' dx' fs', V.ref a = .ref a' ∧ H a' = some (.ins C' dx' fs') ∧ Cls K C' ∧ NoAttr K C' f ∧ fs'.length < 1000 ∧ R a' C' dx' fs' := ⟨a, C, dx, fs, rfl, e, c, n, l, h⟩
theorem w_faug {rd : V → V → Hp → VK → Prop} {f : Str} (h : ta σ H fun x H1 => ∃ a C dx fs v, x = .ref a ∧ H1 a = some (.ins C dx fs) ∧ Cls K C ∧ NoAttr K C f ∧ fs.lookup f = some v ∧
  tv σ H1 fun y H2 => rd v y H2 fun z H3 => ∃ dx' fs', H3 a = some (.ins C dx' fs') ∧ fs'.length < 1000 ∧ D.nx σ (upd H3 a (.ins C dx' (putF f z fs')))) : sFldAug K ta tv rd f D σ H := h
theorem w_meth {C : Addr} {m : Str} {sp : Sp} {E : XK} (h : ta σ H fun x H1 => ∃ a dx fs, x = .ref a ∧ H1 a = some (.ins C dx fs) ∧ fs.lookup m = none ∧ tA σ H1 fun vs H2 => sp (x :: (vs ++ [])) H2 Q E) : tMeth C m sp [] E ta tA σ H Q := h
theorem w_isN (h : Q (.bl (decide (x = .non))) H) : (fun x y H Q => y = V.non ∧ Q (.bl (decide (x = V.non))) H : R2) x .non H Q := ⟨rfl, h⟩
theorem w_bmS {rm : V → List V → Hp → VK → Prop} {z : Str} (h : tA σ H fun xs H2 => rm (.str z) xs H2 Q) : tyV K "str" (.str z) H ∧ tA σ H fun xs H2 => rm (.str z) xs H2 Q := ⟨rfl, h⟩
theorem w_split {l : List Nat} {c : Nat} (hc : c < 256) (hz : l.length + 2 ≤ sizeLine) (h : ∀ p, H p = none → Q (.ref p) (upd H p (.lst ((spl [c] 0 [] l).map fun r => V.str (SX.S r))))) : rSplitS (.str (SX.S l)) [.str (SX.S [c])] H Q := ⟨l, c, rfl, rfl, hc, hz, h⟩
theorem w_strip {l : List Nat} (hz : l.length ≤ sizeLine) (h : Q (.str (SX.S (strp l))) H) : rStripS (.str (SX.S l)) [.str (SX.S [32])] H Q := ⟨l, rfl, rfl, hz, h⟩
theorem w_start {l : List Nat} {c : Nat} (h : Q (.bl (decide (l[0]? = some c))) H) : rStartS (.str (SX.S l)) [.str (SX.S [c])] H Q := ⟨l, c, rfl, rfl, h⟩
theorem w_join {l : List (List Nat)} {c : Nat} {p : Addr} (hs : SqL K H p (l.map fun r => V.str (SX.S r))) (hz : (l.map (·.length)).sum + l.length ≤ 16777216) (h : Q (.str (SX.S (joinL [c] l))) H) : rJoinS K (.str (SX.S [c])) [.ref p] H Q := ⟨c, p, l, rfl, rfl, hs, hz, h⟩
theorem w_prt {l : List Nat} {c : Nat} (hz : l.length ≤ sizeLine) (h : ∀ p, H p = none → Q (.ref p) (upd H p (.tup (match par [c] [] l with | some (a, b) => [.str (SX.S a), .str (SX.S [c]), .str (SX.S b)] | none => [.str (SX.S l), .str (SX.S []), .str (SX.S [])])))) : rPartS (.str (SX.S l)) [.str (SX.S [c])] H Q := ⟨l, c, rfl, rfl, hz, h⟩
theorem w_cnt1 {ns : List (List Nat)} {k : List Nat} {p : Addr} (hs : SqL K H p (ns.map fun r => V.str (SX.S r))) (h : Q (.int (ns.count k : Nat)) H) : rCntS K (.ref p) [.str (SX.S k)] H Q := ⟨p, ns, k, rfl, rfl, hs, h⟩
theorem w_lstTyQ {p : Addr} {xs : List V} {F : Prop} (hp : SqL K H p xs) (h : F) : tyV K "list" (.ref p) H ∧ F := ⟨.inl ⟨rfl, _, hp⟩, h⟩
theorem w_ixLm {p : Addr} {xs : List V} (hs : SqL K H p (xs ++ [v])) (h : Q v H) : rIxL K (.ref p) (.int (-1)) H Q := ⟨p, _, _, v, rfl, rfl, hs, atI_last xs v, h⟩
theorem w_setLm {p : Addr} {xs : List V} {F : Hp → Prop} (hp : H p = some (.lst (xs ++ [x]))) (h : F (upd H p (.lst (xs ++ [v])))) : rSetL (.ref p) (.int (-1)) v H F := by
  refine ⟨p, xs ++ [x], -1, xs.length, rfl, rfl, hp, ?_, ?_⟩
  · unfold ixN
    have hl : (xs ++ [x]).length = xs.length + 1 := by simp
    rw [hl, if_neg (by decide), if_pos (by omega)]
    congr 1
    omega
  · rw [List.set_append_right _ _ (Nat.le_refl _), Nat.sub_self]; exact h
theorem w_repL {p : Addr} {xs : List V} {n : Nat} (hp : H p = some (.lst xs)) (hn : n < 2 ^ 62) (hz : xs.length * n ≤ sizeLine) (h : ∀ q, H q = none → Q (.ref q) (upd H q (.lst (List.replicate n xs).flatten))) : rRep (.ref p) (.int (n : Int)) H Q :=
  ⟨p, n, xs, rfl, rfl, hp, by omega, by omega, by rw [Int.toNat_natCast]; exact hz, by rw [Int.toNat_natCast]; exact h⟩
theorem w_catU {p q : Addr} {xs ys : List V} (hp : SqT K H p xs) (hq : SqT K H q ys) (hx : xs ≠ []) (hy : ys ≠ []) (hz : xs.length + ys.length ≤ 4096) (h : ∀ t, H t = none → Q (.ref t) (upd H t (.tup (xs ++ ys)))) : rCatT K (.ref p) (.ref q) H Q :=
  ⟨p, q, xs, ys, rfl, rfl, hp, hq, hx, Nat.le_trans hz (by decide), fun z => absurd z hy, fun _ => h⟩
theorem w_tTo {p : Addr} {l : List V} {b : Nat} (hs : SqT K H p l) (hb : b < l.length) (h : ∀ q, H q = none → Q (.ref q) (upd H q (.tup (l.take b)))) : rSlT K (.ref p) none (some (b : Int)) H Q := ⟨p, l, rfl, hs, by rw [HT.sIx_nat]; intro z; have := z.2; omega, by rw [cut_to]; exact h⟩
theorem w_tupL {p : Addr} {ys : List V} (hs : SqL K H p ys) (h : ∀ l, H l = none → Q (.ref l) (upd H l (.tup ys))) : rTupL K [.ref p] H Q := ⟨p, ys, rfl, hs, h⟩
theorem w_lstQL {p : Addr} {ys : List V} (hs : SqL K H p ys) (h : ∀ l, H l = none → Q (.ref l) (upd H l (.lst ys))) : rLstQ K [.ref p] H Q := ⟨p, ys, rfl, .inl hs, h⟩
/-! ### data -/
theorem dpS {H : Hp} : ∀ ws : List (List Nat), DpAll K H (ws.map fun r => V.str (SX.S r)) (ws.map fun r => PyData.str (SX.S r))
  | [] => .nil
  | w :: ws => .cons (.str _) (dpS ws)
/-- plain signs alone -/
def Cok (l : List Nat) : Prop := ∀ c ∈ l, c < 256
theorem strOk_S {l : List Nat} (h : Cok l) : PyData.strOk (SX.S l) = true := by
  unfold PyData.strOk
  rw [Array.all_eq_true']
  intro c hc
  have hc' : c ∈ (SX.S l).cps.toList := by simpa using hc
  rw [S_get] at hc'
  exact decide_eq_true (Nat.lt_trans (h c hc') (by decide))
theorem shS : ∀ ws : List (List Nat), (∀ w ∈ ws, Cok w) → PyData.canLayAll0 (ws.map fun r => PyData.str (SX.S r)) = true ∧ PyData.depthAll (ws.map fun r => PyData.str (SX.S r)) ≤ 1
  | [], _ => ⟨rfl, Nat.zero_le _⟩
  | w :: ws, h => by
    obtain ⟨h1, h2⟩ := shS ws fun v hv => h v (List.mem_cons_of_mem _ hv)
    refine ⟨?_, ?_⟩
    · simp only [List.map_cons, PyData.canLayAll0, PyData.canLay0]
      rw [strOk_S (h w List.mem_cons_self), h1]; rfl
    · simp only [List.map_cons, PyData.depthAll, PyData.depth]
      omega
theorem shL {ws : List (List Nat)} (h : ∀ w ∈ ws, Cok w) : SeqAt.shaped (.list (ws.map fun r => PyData.str (SX.S r))) = true := by
  obtain ⟨h1, h2⟩ := shS ws h
  show ((PyData.canLay0 (.list _)) && decide (PyData.depth (.list _) ≤ 64)) = true
  rw [Bool.and_eq_true]
  refine ⟨by simp only [PyData.canLay0]; exact h1, decide_eq_true ?_⟩
  simp only [PyData.depth]; omega
theorem eqvS : ∀ ws vs : List (List Nat), PyData.eqvAll (ws.map fun r => PyData.str (SX.S r)) (vs.map fun r => PyData.str (SX.S r)) = decide (ws = vs)
  | [], [] => rfl
  | [], _ :: _ => rfl
  | _ :: _, [] => rfl
  | w :: ws, v :: vs => by
    simp only [List.map_cons, PyData.eqvAll, PyData.eqv, eqvS ws vs]
    by_cases h : w = v
    · subst h; simp
    · have : (SX.S w == SX.S v) = false := by
        rw [beq_eq_false_iff_ne]; exact fun z => h (SX.S_inj z)
      simp [this, h]
theorem w_eqW {p q : Addr} {ws vs : List (List Nat)} (hp : SqL K H p (ws.map fun r => V.str (SX.S r))) (hq : SqL K H q (vs.map fun r => V.str (SX.S r))) (h1 : ∀ w ∈ ws, Cok w) (h2 : ∀ w ∈ vs, Cok w) (h : Q (.bl (decide (ws = vs))) H) : rEqD K (.ref p) (.ref q) H Q :=
  ⟨_, _, .lst hp (dpS ws), .lst hq (dpS vs), shL h1, shL h2, by simp only [PyData.eqv, eqvS]; exact h⟩
end
end L2

/-! New things told by what stands, not by how: Same. -/
namespace L2
open PySem PySem.Spec PyProof.Rows SX TL
theorem same_upd {H : Hp} {p : Addr} {o : HO} (h : H p = none) : Same H (upd H p o) := fun b u e => by
  rw [upd_ne (ne_of_none e h)]; exact e
theorem Same.tr {H H1 H2 : Hp} (h : Same H H1) (k : Same H1 H2) : Same H H2 := fun b u e => k b u (h b u e)
theorem SqL.sm {K : PySem.W.Frag} {H H' : Hp} {a : Addr} {xs : List V} (h : SqL K H a xs) (e : Same H H') : SqL K H' a xs :=
  h.elim (fun h => .inl (h.elim (fun h => .inl (e _ _ h)) fun ⟨o, h⟩ => .inr ⟨o, e _ _ h⟩)) fun h => .inr h
/-- a new list, a new tuple -/
def NewL (xs : List V) (H : Hp) (Q : VK) : Prop := xs.length ≤ sizeLine ∧ ∀ p, H p = none → Q (.ref p) (upd H p (.lst xs))
def NewT (xs : List V) (H : Hp) (Q : VK) : Prop := xs.length ≤ sizeLine ∧ ∀ p, H p = none → Q (.ref p) (upd H p (.tup xs))
/-- all but p is as it was -/
def Ex (p : Addr) (H H' : Hp) : Prop := ∀ b, b ≠ p → H' b = H b
section
variable {σ : St} {H : Hp} {v : V} {tA : TA} {Q : VK} {K : PySem.W.Frag}
theorem w_lstN (h : tA σ H fun xs H1 => NewL xs H1 Q) : tLst tA σ H Q := h
theorem w_tupN (h : tA σ H fun xs H1 => NewT xs H1 Q) : tTup tA σ H Q := h
theorem n_L {xs : List V} (h : ∀ p H', H p = none → Same H H' → H' p = some (.lst xs) → Q (.ref p) H') (hz : xs.length ≤ 4096 := by exact Nat.le_of_ble_eq_true rfl) : NewL xs H Q :=
  ⟨Nat.le_trans hz (by decide), fun p hp => h p _ hp (same_upd hp) upd_same⟩
theorem n_T {xs : List V} (h : ∀ p H', H p = none → Same H H' → H' p = some (.tup xs) → Q (.ref p) H') (hz : xs.length ≤ 4096 := by exact Nat.le_of_ble_eq_true rfl) : NewT xs H Q :=
  ⟨Nat.le_trans hz (by decide), fun p hp => h p _ hp (same_upd hp) upd_same⟩
theorem n_to {p : Addr} {l : List V} {b : Nat} (hs : SqL K H p l) (h : ∀ q H', H q = none → Same H H' → H' q = some (.lst (l.take b)) → Q (.ref q) H') : rSlL K (.ref p) none (some (b : Int)) H Q := w_lTo hs fun q hq => h q _ hq (same_upd hq) upd_same
theorem n_from {p : Addr} {l : List V} {a : Nat} (hs : SqL K H p l) (h : ∀ q H', H q = none → Same H H' → H' q = some (.lst (l.drop a)) → Q (.ref q) H') : rSlL K (.ref p) (some (a : Int)) none H Q := w_lFrom hs fun q hq => h q _ hq (same_upd hq) upd_same
theorem n_mid {p : Addr} {l : List V} {a b : Nat} (hs : SqL K H p l) (h : ∀ q H', H q = none → Same H H' → H' q = some (.lst ((l.drop a).take (b - a))) → Q (.ref q) H') : rSlL K (.ref p) (some (a : Int)) (some (b : Int)) H Q := w_lMid hs fun q hq => h q _ hq (same_upd hq) upd_same
theorem n_cat {p q : Addr} {xs zs : List V} (hp : H p = some (.lst xs)) (hq : H q = some (.lst zs)) (hz : xs.length + zs.length ≤ 100000) (h : ∀ t H', H t = none → Same H H' → H' t = some (.lst (xs ++ zs)) → Q (.ref t) H') : rCat (.ref p) (.ref q) H Q :=
  w_catL hp hq (Nat.le_trans hz (by decide)) fun t ht => h t _ ht (same_upd ht) upd_same
theorem n_rep {p : Addr} {xs : List V} {n : Nat} (hp : H p = some (.lst xs)) (hz : xs.length * n ≤ 100000) (hn : n ≤ 100000) (h : ∀ q H', H q = none → Same H H' → H' q = some (.lst (List.replicate n xs).flatten) → Q (.ref q) H') : rRep (.ref p) (.int (n : Int)) H Q :=
  w_repL hp (Nat.lt_of_le_of_lt hn (by decide)) (Nat.le_trans hz (by decide)) fun t ht => h t _ ht (same_upd ht) upd_same
theorem n_tup {p : Addr} {ys : List V} (hs : SqL K H p ys) (h : ∀ l H', H l = none → Same H H' → H' l = some (.tup ys) → Q (.ref l) H') : rTupL K [.ref p] H Q := w_tupL hs fun t ht => h t _ ht (same_upd ht) upd_same
theorem n_lst {p : Addr} {ys : List V} (hs : SqL K H p ys) (h : ∀ l H', H l = none → Same H H' → H' l = some (.lst ys) → Q (.ref l) H') : rLstQ K [.ref p] H Q := w_lstQL hs fun t ht => h t _ ht (same_upd ht) upd_same
theorem n_catU {p q : Addr} {xs ys : List V} (hp : SqT K H p xs) (hq : SqT K H q ys) (hx : xs ≠ []) (hy : ys ≠ []) (hz : xs.length + ys.length ≤ 4096) (h : ∀ t H', H t = none → Same H H' → H' t = some (.tup (xs ++ ys)) → Q (.ref t) H') : rCatT K (.ref p) (.ref q) H Q :=
  w_catU hp hq hx hy hz fun t ht => h t _ ht (same_upd ht) upd_same
theorem n_tTo {p : Addr} {l : List V} {b : Nat} (hs : SqT K H p l) (hb : b < l.length) (h : ∀ q H', H q = none → Same H H' → H' q = some (.tup (l.take b)) → Q (.ref q) H') : rSlT K (.ref p) none (some (b : Int)) H Q := w_tTo hs hb fun t ht => h t _ ht (same_upd ht) upd_same
theorem n_split {l : List Nat} {c : Nat} (hc : c < 256) (hz : l.length + 2 ≤ sizeLine) (h : ∀ p H', H p = none → Same H H' → H' p = some (.lst ((spl [c] 0 [] l).map fun r => V.str (SX.S r))) → Q (.ref p) H') : rSplitS (.str (SX.S l)) [.str (SX.S [c])] H Q := w_split hc hz fun t ht => h t _ ht (same_upd ht) upd_same
theorem n_part {l : List Nat} {c : Nat} (hz : l.length ≤ sizeLine) (h : ∀ p H', H p = none → Same H H' → H' p = some (.tup (match par [c] [] l with | some (a, b) => [.str (SX.S a), .str (SX.S [c]), .str (SX.S b)] | none => [.str (SX.S l), .str (SX.S []), .str (SX.S [])])) → Q (.ref p) H') : rPartS (.str (SX.S l)) [.str (SX.S [c])] H Q := w_prt hz fun t ht => h t _ ht (same_upd ht) upd_same
theorem n_app {p : Addr} {xs : List V} (hp : H p = some (.lst xs)) (hz : xs.length ≤ 100000) (h : ∀ H', H' p = some (.lst (xs ++ [v])) → Ex p H H' → Q .non H') : rAppend (.ref p) [v] H Q :=
  w_app hp (Nat.lt_of_le_of_lt hz (by decide)) (h _ upd_same fun b hb => upd_ne hb)
theorem n_lTy {p : Addr} {xs : List V} {F : Prop} (hp : H p = some (.lst xs)) (h : F) : tyV K "list" (.ref p) H ∧ F := ⟨.inl ⟨rfl, _, SqL.of hp⟩, h⟩
theorem lc_const {a : Addr} {xs : List V} {i : Nat} {σ : St} {H1 : Hp} {D : Addr} {Qd : Hp → Prop} (hx : SqL K H1 a xs) (hD : H1 D = none) (hz : xs.length ≤ 100000) (h : ∀ H', Same H1 H' → H' D = some (.lst (List.replicate xs.length v)) → Qd H') :
    ∃ W : Nat → Nat → Hp → Prop, (∃ m, W 0 m (upd H1 D (.lst []))) ∧ ∀ j m H, W j m H →
      ((Itl K a).stop j H ∧ Qd H) ∨ ((Itl K a).go j H ∧ ∃ Nx : Hp → Prop, (∀ H', Nx H' → ∃ m', m' < m ∧ W (j + 1) m' H') ∧ ∀ x H', (Itl K a).yld j H x H' → gName i x (wipe σ [i]) H' fun σ2 H2 => wipe σ2 [i] = wipe σ [i] ∧ tYes σ2 H2 fun b H3 =>
        if b = true then tC v σ2 H3 fun y H4 => ∃ acc, H4 D = some (.lst acc) ∧ acc.length < sizeLine ∧ Nx (upd H4 D (.lst (acc ++ [y]))) else Nx H3) := by
  refine lc_list (xs := xs) (fun j H' => Same H1 H' ∧ H' D = some (.lst (List.replicate j v))) ⟨same_upd hD, upd_same⟩ (fun j H' _ p => hx.sm p.1) ?_ (fun H' p => h H' p.1 p.2)
  rintro j x H' hj ⟨s, e⟩
  have hj' : j < xs.length := (List.getElem?_eq_some_iff.mp hj).1
  refine ⟨?_, ?_⟩
  · show ((σ.set i none).set i (some x)).set i none = σ.set i none
    rw [List.set_set, List.set_set]
  · show ∃ acc, H' D = some (.lst acc) ∧ acc.length < sizeLine ∧ _
    refine ⟨_, e, Nat.lt_of_le_of_lt (show _ ≤ 100000 by rw [List.length_replicate]; omega) (by decide), ⟨fun b o q => ?_, by rw [upd_same, List.replicate_succ']⟩⟩
    rw [upd_ne (ne_of_none q hD)]; exact s b o q
end
end L2

/-! Defs that may use repr: what is being shown around them is known to be nothing. Equality of data of any depth that there is room for. -/
namespace L2
open PySem PySem.Spec PyProof.Rows
structure RoomG (k : Nat) (A : Around) : Prop extends Room k A where
  gd : A.guards = some []
theorem RoomG.mono {j k : Nat} {A : Around} (r : RoomG k A) (h : j ≤ k) : RoomG j A := ⟨r.toRoom.mono h, r.gd⟩
theorem RoomG.deeper {k : Nat} {A : Around} (r : RoomG (k + 1) A) (env : Env) : RoomG k (A.deeper env) := ⟨r.toRoom.deeper env, r.gd⟩
structure FnG (P : Program) (w : World) (K : PySem.W.Frag) (mg : Str → Option Value) (base : Heap) (CX : CXT) (k : Nat) (f : Addr) (fd : FuncData) (ps : List Str) (sp : Sp) : Prop where
  len : ∀ vs H Q E, sp vs H Q E → vs.length = ps.length
  run : ∀ (A : Around) (outer : List Env) (s : Shared) (H : Hp) (args : Args) (us : List Value) (vs : List V) (Q : VK) (E : XK), RoomG k A → Env0 P w K mg base A outer s H → BindsTo s fd args (ps.zip us) → Vals vs us → sp vs H Q E →
    codeAny (model P w) A (.call (.ref f) args) (CR CX outer P w H s Q E) s
theorem FunD.okG {P : Program} {w : World} {K : PySem.W.Frag} {mg : Str → Option Value} {base : Heap} {x qual : Str} {params : Arguments} {body : List Stmt} {scope : Scope} {dvs : List V} {kws : List (Str × V)} {f : Addr} {fd : FuncData}
    {CX : CXT} {N ps : List Str} {k : Nat} {sp : Sp} (F : FunD K x qual params body scope dvs kws f fd) (S : FnScope N ps scope) (len : ∀ vs H Q E, sp vs H Q E → vs.length = ps.length)
    (hbody : ∀ (cdv : Value) (A : Around) (outer : List Env) (s : Shared) (H : Hp) (vs : List V) (Q : VK) (E : XK), RoomG k (A.deeper (envOfC qual scope s.heap.objs.size f cdv)) → sp vs H Q E →
      ∃ t, PSs (cxOf CX P w K mg base N qual scope f cdv A outer s H E) body t ∧ t { nx := fun _ H' => Q .non H', rt := Q } (start N vs) H) : FnG P w K mg base CX (k + 1) f fd ps sp := by
  obtain ⟨oc, od, dV, kV, doc, pm, an, cdv, ct, osl, rfl, lk, hcd, _, _⟩ := F.ex
  refine ⟨len, fun A outer s H args us vs Q E hr e0 hb r hsp => ?_⟩
  have hl := len _ _ _ _ hsp
  have KX : K.In s.heap := e0.mod.kin.keeps fun b o e => (e0.bs b o e).1
  have lim : s.heap.NoLimit := e0.mod.nolimit.keeps fun b o e => (e0.bs b o e).1
  have hkind : ∀ y ∈ ps.zip us, scope.names.lookup y.1 = some .local ∨ (scope.names.lookup y.1 = some .cell ∧ ((cellsFrom (s.heap.objs.size + 1) scope.names []).lookup y.1).isSome = true) := fun ⟨n, v⟩ hy => by
    rcases S.par n (List.of_mem_zip hy).1 with q | q
    · exact .inl q
    · exact .inr ⟨q, PySem.W.cellsFrom_some _ _ _ (.inl q)⟩
  refine codeAny_call_function hr.toRoom.depth (KX _ _ lk) rfl S.co S.gen rfl (PySem.W.codeRec_of KX hcd) (hb _ _ _ _ ?_)
  refine wpAny_newFunctionEnv_cells S.kind hkind fun env he s1 x => ?_
  subst he
  refine ⟨lim.keeps x.toInCall.keep, codeAny_func ?_⟩
  obtain ⟨t, ht, hq⟩ := hbody cdv A outer s H vs Q E (hr.deeper _) hsp
  have I : Inv (cxOf CX P w K mg base N qual scope f cdv A outer s H E) [] (start N vs) H s1 := inv_start S hr.hd e0 hl r x
  refine wpAny_mono (ht.run [] s1 (start N vs) H _ I hq) (fun fl s' hs => ?_) fun e s' hs => hs
  have fin : ∀ {σ' : St} {H' : Hp} {v : V} {u : Value}, Inv (cxOf CX P w K mg base N qual scope f cdv A outer s H E) [] σ' H' s' → RelV v u → Q v H' → CE outer P w H s Q u s' :=
    fun {σ' H' v u} J rv q => ⟨v, H', J.os, J.bare, J.base, J.hok, rv, q⟩
  cases fl with
  | ret u =>
    obtain ⟨v, σ', H', J, rv, q⟩ := hs
    exact fin J rv q
  | next =>
    obtain ⟨σ', H', J, q⟩ := hs
    exact fin (v := V.non) (u := Value.none) J rfl q
  | brk =>
    obtain ⟨_, _, _, q⟩ := hs
    exact False.elim q
  | cont =>
    obtain ⟨_, _, _, q⟩ := hs
    exact False.elim q
structure CalG (P : Program) (w : World) (K : PySem.W.Frag) (mg : Str → Option Value) (base : Heap) (CX : CXT) (k : Nat) (x : Str) (sp : Sp) : Prop where
  ex : ∃ (f : Addr) (fd : FuncData) (ps : List Str), FnG P w K mg base CX k f fd ps sp ∧ mg x = some (.ref f) ∧ PySem.W.keepIn K (.ref f) = true ∧ Binds K fd ps []
theorem CalX.g {P : Program} {w : World} {K : PySem.W.Frag} {mg : Str → Option Value} {base : Heap} {CX : CXT} {k : Nat} {x : Str} {sp : Sp} (c : CalX P w K mg base CX k x sp) : CalG P w K mg base CX k x sp := by
  obtain ⟨f, fd, ps, F, hm, kp, hb⟩ := c.ex
  exact ⟨f, fd, ps, ⟨F.len, fun A outer s H args us vs Q E hr => F.run A outer s H args us vs Q E hr.toRoom⟩, hm, kp, hb⟩
section
variable {X : Cx} {CX : CXT} {k j : Nat} {x : Str} {sp : Sp} {p pos : Pos} {e : Expr} {es : List Expr} {t : TA} {E : XK} {ES : St → XK}
theorem pe_cg (c : CalG X.prog X.w X.K X.mg X.base CX k x sp) (hr : RoomG j X.A) (hk : k ≤ j) (hg : Gl X x) (hx : Passes CX X E) (ha : PA X (e :: es) t)
    (hdb : (x == ("__debug__" : Str)) = false := by decide) (he : starEach (e :: es) X.env = (false, eval e X.env) :: starEach es X.env := by rfl) (hpl : (backTo pos (starEach es X.env)).any (·.1) = false := by rfl) :
    PE X (.Call (.Name x p) (e :: es) [] pos) (tCall sp [] E t) := by
  obtain ⟨f, fd, ps, F, hm, kp, hb⟩ := c.ex
  refine ⟨fun pins s σ H Q I h => ?_⟩
  refine wpAny_Call_Name_kw (ld_glob I hg hm ?_ hdb)
  refine PySem.W.callWith_K (h₀ := X.base) I.ok.mod.kin kp (thn (ha.run pos pins s σ H _ I h) fun us s1 ⟨vs, H1, I1, r, q⟩ => ⟨I1.kIn, ?_⟩) he hpl
  have q' : sp vs H1 Q E := by simpa using q
  have hl : us.length = ps.length := by rw [← r.length]; exact F.len _ _ _ _ q'
  have hb' := hb s1 us I1.kIn (by simpa using hl)
  rw [List.append_nil] at hb'
  refine wpAny_call (codeAny_mono (F.run X.A X.stack s1 H1 ⟨us, []⟩ us vs Q E (hr.mono hk) I1.env0 hb' r q') fun r s' hq => ?_)
  cases r with
  | error e => exact hx pins σ H1 s1 e s' I1 hq
  | ok fl =>
    cases fl with
    | ret u => exact I1.after hq
    | next => exact False.elim hq
    | brk => exact False.elim hq
    | cont => exact False.elim hq
theorem pe_cgS (c : CalG X.prog X.w X.K X.mg X.base CX k x sp) (hr : RoomG j X.A) (hk : k ≤ j) (hg : Gl X x) (hx : ∀ σ, PassesAt CX X σ (ES σ)) (ha : PA X (e :: es) t)
    (hdb : (x == ("__debug__" : Str)) = false := by decide) (he : starEach (e :: es) X.env = (false, eval e X.env) :: starEach es X.env := by rfl) (hpl : (backTo pos (starEach es X.env)).any (·.1) = false := by rfl) :
    PE X (.Call (.Name x p) (e :: es) [] pos) (tCallS sp ES t) := by
  obtain ⟨f, fd, ps, F, hm, kp, hb⟩ := c.ex
  refine ⟨fun pins s σ H Q I h => ?_⟩
  refine wpAny_Call_Name_kw (ld_glob I hg hm ?_ hdb)
  refine PySem.W.callWith_K (h₀ := X.base) I.ok.mod.kin kp (thn (ha.run pos pins s σ H _ I h) fun us s1 ⟨vs, H1, I1, r, q⟩ => ⟨I1.kIn, ?_⟩) he hpl
  have hl : us.length = ps.length := by rw [← r.length]; exact F.len _ _ _ _ q
  have hb' := hb s1 us I1.kIn (by simpa using hl)
  rw [List.append_nil] at hb'
  refine wpAny_call (codeAny_mono (F.run X.A X.stack s1 H1 ⟨us, []⟩ us vs Q (ES σ) (hr.mono hk) I1.env0 hb' r q) fun r s' hq => ?_)
  cases r with
  | error e => exact hx σ pins H1 s1 e s' I1 hq
  | ok fl =>
    cases fl with
    | ret u => exact I1.after hq
    | next => exact False.elim hq
    | brk => exact False.elim hq
    | cont => exact False.elim hq
end
section
variable {P : Program} {w : World} {K : PySem.W.Frag} {mg : Str → Option Value} {base : Heap}
theorem calg0 {x : Str} {params : Arguments} {body : List Stmt} {scope : Scope} {f : Addr} {fd : FuncData} {N ps : List Str} {k : Nat} {sp : Sp} (F : FunD K x x params body scope [] [] f fd) (hm : mg x = some (.ref f)) (S : FnScope N ps scope)
    (b : Binds K fd ps []) (len : ∀ vs H Q E, sp vs H Q E → vs.length = ps.length)
    (hbody : ∀ (cdv : Value) (A : Around) (outer : List Env) (s : Shared) (H : Hp) (vs : List V) (Q : VK) (E : XK), RoomG k (A.deeper (envOfC x scope s.heap.objs.size f cdv)) → sp vs H Q E →
      ∃ t, PSs (cxOf CX0 P w K mg base N x scope f cdv A outer s H E).nox body t ∧ t { nx := fun _ H' => Q .non H', rt := Q } (start N vs) H) : CalG P w K mg base CX0 (k + 1) x sp :=
  ⟨f, fd, ps, F.okG S len fun cdv A outer s H vs Q E hr h => by
    obtain ⟨t, h1, h2⟩ := hbody cdv A outer s H vs Q E hr h
    exact ⟨t, h1.nox, h2⟩, hm, F.kp, b⟩
theorem calgX {CX : CXT} {x : Str} {params : Arguments} {body : List Stmt} {scope : Scope} {f : Addr} {fd : FuncData} {N ps : List Str} {k : Nat} {sp : Sp} (F : FunD K x x params body scope [] [] f fd) (hm : mg x = some (.ref f)) (S : FnScope N ps scope)
    (b : Binds K fd ps []) (len : ∀ vs H Q E, sp vs H Q E → vs.length = ps.length)
    (hbody : ∀ (cdv : Value) (A : Around) (outer : List Env) (s : Shared) (H : Hp) (vs : List V) (Q : VK) (E : XK), RoomG k (A.deeper (envOfC x scope s.heap.objs.size f cdv)) → sp vs H Q E →
      ∃ t, PSs (cxOf CX P w K mg base N x scope f cdv A outer s H E) body t ∧ t { nx := fun _ H' => Q .non H', rt := Q } (start N vs) H) : CalG P w K mg base CX (k + 1) x sp :=
  ⟨f, fd, ps, F.okG S len hbody, hm, F.kp, b⟩
end
/-! ### repr, == and != of data -/
section
variable {X : Cx} {j : Nat}
/-- data without dicts, at most n deep -/
def DpN (K : PySem.W.Frag) (H : Hp) (n : Nat) (v : V) (d : PyData) : Prop := Dp K H v d ∧ d.canLay0 = true ∧ d.depth ≤ n
def rEqN (K : PySem.W.Frag) : R2 := fun x y H Q => ∃ d e, DpN K H 180 x d ∧ DpN K H 180 y e ∧ Q (.bl (PyData.eqv d e)) H
def rNeN (K : PySem.W.Frag) : R2 := fun x y H Q => ∃ d e, DpN K H 180 x d ∧ DpN K H 180 y e ∧ Q (.bl (!PyData.eqv d e)) H
theorem op_eqN (hr : Room j X.A) : OpR X (compareOp .Eq) (rEqN X.K) := by
  intro pins s σ H x y v u Q I rx ry h
  obtain ⟨d, e, ⟨hd, ld, nd⟩, ⟨he, le, ne⟩, q⟩ := h
  obtain ⟨as, r1⟩ := Dp.reads I d x v hd rx
  obtain ⟨bs, r2⟩ := Dp.reads I e y u he ry
  exact SeqAt.compareEq_reads r1 r2 ld le (by have := hr.un; omega) ⟨.bl _, H, I, rfl, q⟩
theorem op_neN (hr : Room j X.A) : OpR X (compareOp .NotEq) (rNeN X.K) := by
  intro pins s σ H x y v u Q I rx ry h
  obtain ⟨d, e, ⟨hd, ld, nd⟩, ⟨he, le, ne⟩, q⟩ := h
  obtain ⟨as, r1⟩ := Dp.reads I d x v hd rx
  obtain ⟨bs, r2⟩ := Dp.reads I e y u he ry
  exact SeqAt.compareNe_reads r1 r2 ld le (by have := hr.un; omega) ⟨.bl _, H, I, rfl, q⟩
def rInN (K : PySem.W.Frag) : R2 := fun x y H Q => ∃ d ds, DpN K H 180 x d ∧ (DpN K H 180 y (.list ds)) ∧ Q (.bl (ds.any fun z => PyData.eqv z d)) H
def rNotInN (K : PySem.W.Frag) : R2 := fun x y H Q => ∃ d ds, DpN K H 180 x d ∧ (DpN K H 180 y (.list ds)) ∧ Q (.bl (!ds.any fun z => PyData.eqv z d)) H
theorem op_inN (hr : Room j X.A) : OpR X (compareOp .In) (rInN X.K) := by
  intro pins s σ H x y v u Q I rx ry h
  obtain ⟨d, ds, ⟨hd, ld, nd⟩, ⟨he, le, ne⟩, q⟩ := h
  obtain ⟨as, r1⟩ := Dp.reads I d x v hd rx
  obtain ⟨bs, r2⟩ := Dp.reads I (.list ds) y u he ry
  exact SeqAt.in_list_reads r2 r1 (by simpa only [PyData.canLay0] using le) ld (by have := hr.un; omega) ⟨.bl _, H, I, rfl, q⟩
theorem op_notInN (hr : Room j X.A) : OpR X (compareOp .NotIn) (rNotInN X.K) := by
  intro pins s σ H x y v u Q I rx ry h
  obtain ⟨d, ds, ⟨hd, ld, nd⟩, ⟨he, le, ne⟩, q⟩ := h
  obtain ⟨as, r1⟩ := Dp.reads I d x v hd rx
  obtain ⟨bs, r2⟩ := Dp.reads I (.list ds) y u he ry
  exact SeqAt.notIn_list_reads r2 r1 (by simpa only [PyData.canLay0] using le) ld (by have := hr.un; omega) ⟨.bl _, H, I, rfl, q⟩
def rRepr (K : PySem.W.Frag) : List V → Hp → VK → Prop := fun xs H Q => ∃ a d, xs = [.ref a] ∧ DpN K H 180 (.ref a) d ∧ d.showable = true ∧ d.shown.length ≤ sizeLine ∧ Q (.str d.shown) H
theorem call_repr (hr : RoomG j X.A) : CallR X (.builtin "repr") (rRepr X.K) := by
  intro pins s σ H xs us Q I r h
  obtain ⟨a, d, rfl, ⟨hd, ld, nd⟩, hs, hz, q⟩ := h
  cases r with
  | cons rx rr =>
    cases rr
    obtain ⟨as, rd⟩ := Dp.reads I d _ _ hd rx
    cases (show _ = Value.ref a from rx)
    exact repr_of_reads' rd hs (PyData.noDict_hsm (PyData.hasDict_of_canLay d ld)) hr.gd (by have := hr.un; omega) (fun _ _ e => e) (fun h' u tk hk => ⟨.str d.shown, H, I.kept hk, ⟨_, rfl⟩, q⟩) hz
end
/-! ### the law's call -/
theorem callG_core {P : Program} {w : World} {K : PySem.W.Frag} {mg mb : Str → Option Value} {CX : CXT} {k : Nat} {fa a : Addr} {fd : FuncData} {x : Str} {sp : Sp} {s : Shared} {vs : List Value} {H : Hp}
    (KX : K.In s.heap) (gs : s.heap.Ns mainGlobals mg) (bs : s.heap.Ns builtinsNs mb) (bb : ∀ x : Str, x ≠ "__name__" → mb x = bootBuiltins x) (lim : s.heap.NoLimit) (hg : s.gens = #[])
    (ha : s.heap.get? a = some { cls := .type "list", data := .seq vs.toArray }) (hr : Room k callerA)
    (F : ∀ base : Heap, K.In base → base.Ns mainGlobals mg → FnG P w K mg base CX k fa fd [x] sp) (bind : ∀ (s : Shared) (u : Value), BindsTo s fd ⟨[u], []⟩ [(x, u)])
    (hsp : sp [.ref a] H (fun v _ => v = .bl true) fun _ _ _ => False) (hCX : ∀ H e s', CX [] H s (fun _ _ _ => False) e s' → False)
    (only : Only H) (ok : HOk P w H s.heap) (hA : ∀ b, H b ≠ none → b = a) (hK : H a ≠ none → K.lookup a = none) :
    codeAny (model P w) callerA (.call (.ref fa) ⟨[.ref a], []⟩) (fun r s' => r = .ok (.ret (.bool true)) ∧ OldK s.heap s'.heap ∧ s'.os = s.os ∧ AllBare s'.gens) s := by
  have at_ : ∀ {b : Addr}, H b ≠ none → s.heap.get? b = some { cls := .type "list", data := .seq vs.toArray } := fun {b} z => by rw [hA b z]; exact ha
  have ns : ∀ {b : Addr} {m : Str → Option Value}, s.heap.Ns b m → (hidT s.heap H).Ns b m := by
    rintro b m ⟨o, es, ep, e, d, r⟩
    refine ⟨o, es, ep, hidT_get e (Classical.byContradiction fun z => ?_), d, r⟩
    have e2 := e.symm.trans (at_ z)
    cases e2
    cases (show Data.seq vs.toArray _ = Data.dict es ep from d)
  have kin : K.In (hidT s.heap H) := fun b o e => hidT_get (KX b o e) (Classical.byContradiction fun z => by
    have zb := hA b z
    subst zb
    rw [hK z] at e
    cases e)
  have md : Mod K mg (hidT s.heap H) := ⟨kin, ns gs, ⟨mb, ns bs, bb⟩, by obtain ⟨mc, h1, h2⟩ := lim; exact ⟨mc, ns h1, h2⟩⟩
  have env : Env0 P w K mg (hidT s.heap H) callerA [] s H :=
    { frames := rfl, mod := md, bs := fun b o e => of_hidT e, bsz := Nat.le_of_eq (hidT_size _ _), funs := trivial, frf := (fun b hb => by cases (show b ∈ ([] : List Addr) from hb)), hok := ok, bare := .of_eq hg }
  have run := (F _ kin (ns gs)).run callerA [] s H ⟨[.ref a], []⟩ [.ref a] [.ref a] _ _ ⟨hr, rfl⟩ env (bind s (.ref a)) (.cons rfl .nil) hsp
  refine codeAny_mono run fun r s' h => ?_
  match r, h with
  | .error e, h => exact (hCX H e s' h).elim
  | .ok .next, h => exact False.elim h
  | .ok .brk, h => exact False.elim h
  | .ok .cont, h => exact False.elim h
  | .ok (.ret u), ⟨v, H', os, bare, un, ok', rv, q⟩ =>
    have q : v = .bl true := q
    subst q
    have eu : u = Value.bool true := rv
    subst eu
    refine ⟨rfl, OldK.of_keep fun b o e => ?_, os, bare⟩
    rcases only b with z | ⟨ob, xs, z⟩
    · exact un.keep b o e z (by intro y; cases (show b ∈ ([] : List Addr) from y)) (by simp)
    · have e1 := (ok b _ z).1
      have e2 := (ok' b _ (un.frzs b ob _ z)).1
      rw [e] at e1
      cases e1
      exact e2
theorem law_callG {P : Program} {w : World} {K : PySem.W.Frag} {mg mb : Str → Option Value} {CX : CXT} {k : Nat} {fa a : Addr} {fd : FuncData} {x : Str} {sp : Sp} {s : Shared} {vs : List Value} {ns : List Int}
    (KX : K.In s.heap) (gs : s.heap.Ns mainGlobals mg) (bs : s.heap.Ns builtinsNs mb) (bb : ∀ x : Str, x ≠ "__name__" → mb x = bootBuiltins x) (lim : s.heap.NoLimit) (hg : s.gens = #[])
    (ha : s.heap.get? a = some { cls := .type "list", data := .seq vs.toArray }) (hi : IntsAre vs ns) (hl : ns.length ≤ sizeLine) (hr : Room k callerA)
    (F : ∀ base : Heap, K.In base → base.Ns mainGlobals mg → FnG P w K mg base CX k fa fd [x] sp) (bind : ∀ (s : Shared) (u : Value), BindsTo s fd ⟨[u], []⟩ [(x, u)])
    (hsp : ∀ H : Hp, Only H → SqL K H a (ns.map V.int) → sp [.ref a] H (fun v _ => v = .bl true) fun _ _ _ => False) (hCX : ∀ H e s', CX [] H s (fun _ _ _ => False) e s' → False) :
    codeAny (model P w) callerA (.call (.ref fa) ⟨[.ref a], []⟩) (fun r s' => r = .ok (.ret (.bool true)) ∧ OldK s.heap s'.heap ∧ s'.os = s.os ∧ AllBare s'.gens) s := by
  have rv := vals_ints hi
  cases hk : K.lookup a with
  | some o =>
    have e := KX a o hk
    rw [ha] at e
    cases e
    refine callG_core (H := fun _ => none) KX gs bs bb lim hg ha hr F bind (hsp _ (fun _ => .inl rfl) (.inr ⟨_, vs.toArray, _, hk, rfl, rfl, rfl, ?_, by simpa using rv⟩)) hCX (fun _ => .inl rfl) (fun b u z => ?_) (fun b z => absurd rfl z) (fun z => absurd rfl z)
    · have := hi.length
      rw [List.size_toArray]; omega
    · cases (show (none : Option HO) = some u from z)
  | none =>
    let S : HO := .frz { cls := .type "list", data := .seq vs.toArray } (.lst (ns.map V.int))
    have on : ∀ b, (fun b => if b = a then some S else none : Hp) b = none ∨ ∃ o xs, (fun b => if b = a then some S else none : Hp) b = some (.frz o (.lst xs)) := fun b => by
      by_cases h : b = a
      · exact .inr ⟨_, _, if_pos h⟩
      · exact .inl (if_neg h)
    refine callG_core (H := fun b => if b = a then some S else none) KX gs bs bb lim hg ha hr F bind (hsp _ on (.inl (.inr ⟨_, if_pos rfl⟩))) hCX on (fun b u z => ?_) (fun b z => Classical.byContradiction fun h => z (if_neg h)) (fun _ => hk)
    by_cases h : b = a
    · have z' := (if_pos h).symm.trans z
      cases z'
      subst h
      exact ⟨ha, by rw [List.length_map]; exact hl, vs, _, rv, ha⟩
    · have z' := (if_neg h).symm.trans z
      cases z'
theorem walk_ofG {l : PySem.W.OpenLaw} {n k : Nat} {q : Program} {loose : List Str} {XP : (Str → Option Value) → Heap → Prop} {YP : World → Heap → Prop} {d : DefRec} {CX : CXT} {x : Str}
    (hn : l.most = some n) (hn2 : n ≤ sizeLine) (hdf : d.params.defaults = []) (hr : Room k callerA)
    (F : ∀ (w : World) (mg : Str → Option Value) (fa : Addr) (h : Heap), YP w h → h.Ns mainGlobals mg → mg d.name = some (.ref fa) →
      ∃ (K : PySem.W.Frag) (fd : FuncData) (sp : Sp), K.In h ∧ (∀ (s : Shared) (u : Value), BindsTo s fd ⟨[u], []⟩ [(x, u)]) ∧
        (∀ (H : Hp) (a : Addr) (ns : List Int), ns.length ≤ n → Only H → SqL K H a (ns.map V.int) → sp [.ref a] H (fun v _ => v = .bl true) fun _ _ _ => False) ∧
        ∀ base : Heap, K.In base → base.Ns mainGlobals mg → FnG l.prog w K mg base CX k fa fd [x] sp)
    (hCX : ∀ (H : Hp) (s : Shared) (e : Value) (s' : Shared), CX [] H s (fun _ _ _ => False) e s' → False) :
    PySem.W.WalkO q loose XP YP l.row.toRowW d [] (fun f vs => PySem.call f vs) := by
  refine Att.attach_call hn hdf fun w s₀ s₁ mg mb fa o pm cd doc a vs ns G Y ho hd hcd hmg hobj hints hlen hg => ?_
  obtain ⟨K, fd, sp, KX, hb, hsp, hF⟩ := F w mg fa _ Y G.T.g hmg
  exact law_callG KX G.T.g G.T.b G.T.builtins G.T.nolimit hg hobj hints (Nat.le_trans hlen hn2) hr hF hb (fun H hO hS => hsp H a ns hlen hO hS) fun H e s' => hCX H s₁ e s'
end L2

/-! Exceptions whose __init__ takes nothing and says super().__init__(text): they have no dict of their own. -/
namespace PySem
namespace HallX
open PySem.W PySem.Calls PyProof.Rows PySem.HandSPX
structure OwnMade0 (h h' : Heap) (e C : Addr) : Prop where
  keep : ∀ b o, h.get? b = some o → h'.get? b = some o
  new : h.objs.size ≤ e
  obj : ∃ oe vs, h'.get? e = some oe ∧ oe.cls = .ref C ∧ oe.dict = none ∧ oe.data = .fields vs ∧ vs[1]? = some .none
structure Init0 (prog : Program) (w : World) (qual : Str) (params : Arguments) (body : List Stmt) (scope : Scope) : Prop where
  head : ∃ a1 : Arg, a1.arg = "self" ∧ (params.posonlyargs ++ params.args).head? = some a1
  bind : ∀ (kV doc pm : Value) (an : Option Addr) (cdv ct : Value) (cc : Addr) (u : Value), bindArgs (ksFn "__init__" qual params body scope .none kV doc pm an cdv ct cc) ⟨[u], []⟩ = pure [(("self" : Str), u)]
  bd : ∃ (p0 p1 p2 p3 p4 : Pos) (msg : Expr) (pl : Sem Bool), body = [.Expr (.Call (.Attribute (.Call (.Name "super" p0) [] [] p1) "__init__" p2) [msg] [] p3) p4] ∧
    (∀ (L fI cc : Addr) (cd : Value) (m : Str → Option Value), MsgOk prog w (ksEnv qual scope L fI cd cc) L m msg) ∧
    (∀ (env : Env), env.scope = scope → starEach [msg] env = [(false, eval msg env)]) ∧
    (∀ (env : Env), env.scope = scope → eval (.Call (.Attribute (.Call (.Name "super" p0) [] [] p1) "__init__" p2) [msg] [] p3) env = (do
      let ov ← attributeBase (.Call (.Name "super" p0) [] [] p1) "__init__" env (eval (.Call (.Name "super" p0) [] [] p1) env)
      standAt p2.atName
      let (f, first) ← holding [ov] (getMethod ov "__init__" pl)
      callWith p3 f first (backTo p3 (starEach [msg] env)) []))
  hks : scope.names.lookup ("super" : Str) = some .globalImplicit
  hkc : scope.names.lookup ("__class__" : Str) = some .free
  hka : scope.names.lookup ("self" : Str) = some .local
  hk : scope.kind = .function
  hco : scope.isCoroutine = false
  hgen : scope.isGenerator = false
  hcell : ∀ x ∈ scope.names, x.2 ≠ .cell
section
variable {prog : Program} {w : World} {A : Around} {R : Result → Shared → Prop} {s : Shared} {K : Frag} {mg mb : Str → Option Value} {x : Str} {C fI cc cda : Addr} {qual : Str} {params : Arguments} {body : List Stmt} {scope : Scope}
theorem hall_init0 {e t0 : Addr} (T : HallTxt prog K mg x C fI cc cda qual params body scope) (I : Init0 prog w qual params body scope)
    (X : K.In s.heap) (G : s.heap.Ns mainGlobals mg) (Gb : s.heap.Ns builtinsNs mb) (hb : mb "super" = some (.type "super")) (hlim : s.heap.NoLimit) (he : s.heap.get? e = some (excO C t0)) (hne : K.lookup e = none)
    (hroom : A.depth < recursionLimit)
    (hq : ∀ h' tk t1, (∀ b o, b ≠ e → s.heap.get? b = some o → h'.get? b = some o) → h'.get? e = some (excO C t1) → R (.ok (.ret .none)) { s with heap := h', toks := tk }) :
    codeAny (model prog w) A (.call (.ref fI) ⟨[.ref e], []⟩) R s := by
  obtain ⟨oc, od, dV, kV, doc, pm, an, ct, osl, hf, hcd, hdv⟩ := T.fn
  obtain ⟨p0, p1, p2, p3, p4, msg, pl, rfl, hm, hst, hev⟩ := I.bd
  refine ks_codeAny_call_defAt (body := _) (binds := [(("self" : Str), .ref e)]) hroom (X _ _ hf) rfl hlim (codeRec_of X hcd) rfl (by subst hdv; exact BindsTo.of_eq (I.bind _ _ _ _ _ _ _ _)) I.hcell (fun z hz => ?_) (fun h₁ hns hk₁ => ?_) I.hco I.hgen I.hk
  · rcases List.mem_cons.mp hz with rfl | hz
    · exact I.hka
    · cases hz
  · show _root_.PySem.wpAt (model prog w) _ (.func _ (ksEnv qual scope s.heap.objs.size fI (.ref cda) cc)) (execs _ (ksEnv qual scope s.heap.objs.size fI (.ref cda) cc)) _ _ _
    have ms : (fun z => ([(("self" : Str), Value.ref e)] : List (Str × Value)).reverse.lookup z) "self" = some (.ref e) := by
      show List.lookup ("self" : Str) ([(("self" : Str), Value.ref e)] : List (Str × Value)) = some (.ref e)
      simp [List.lookup]
    obtain ⟨a1, ha1, hpar⟩ := I.head
    refine ks_wpAt_execs_cons (super_init (t0 := t0) (mb := mb) (pl := pl) (ar := a1) T (X.keeps hk₁) (G.keeps hk₁) (Gb.keeps hk₁) hb hns (hk₁ _ _ he) hne hpar (by rw [ha1]; exact ms) I.hks I.hkc (by rw [ha1]; exact I.hka) I.hk
      (hm _ _ _ _ _) (hst _ rfl) (hev _ rfl) (fun h' tk t1 k' e' => ?_))
    refine _root_.PySem.wpAt_of_wpAny ?_
    show wpAny _ _ (execs [] _) _ _ _
    exact wpAny_execs_nil (hq h' tk t1 (fun b o hbe z => k' b o hbe (hk₁ b o z)) e')
theorem hall_made0 (T : HallTxt prog K mg x C fI cc cda qual params body scope) (I : Init0 prog w qual params body scope)
    (X : K.In s.heap) (G : s.heap.Ns mainGlobals mg) (Gb : s.heap.Ns builtinsNs mb) (hb : mb "super" = some (.type "super")) (hlim : s.heap.NoLimit) (hroom : A.depth + 1 < recursionLimit)
    (hq : ∀ h' tk e, OwnMade0 s.heap h' e C → R (.ok (.ret (.ref e))) { s with heap := h', toks := tk }) :
    codeAny (model prog w) A (.call (.ref C) ⟨[], []⟩) R s := by
  obtain ⟨nm, q, N, bs, bm, sn, sub, ab, col, dd, k0, k1, k2, k3, k5, hC, hbm⟩ := T.cls
  obtain ⟨hp, g, dr, tk, os⟩ := s
  have k : ∀ b o, hp.get? b = some o → ((hp.push (kdv_tup [])).push (excO C hp.objs.size)).get? b = some o := fun b o e => Heap.get?_push_of_some _ (Heap.get?_push_of_some _ e)
  have hget : ((hp.push (kdv_tup [])).push (excO C hp.objs.size)).get? (hp.objs.size + 1) = some (excO C hp.objs.size) := by heap_get
  have hnx : K.lookup (hp.objs.size + 1) = none := by
    cases e : K.lookup (hp.objs.size + 1) with
    | none => rfl
    | some o =>
      have z : hp.get? (hp.objs.size + 1) = some o := X _ _ e
      exact absurd (Nat.lt_of_succ_lt (Heap.lt_size z)) (Nat.lt_irrefl _)
  refine call_own F.excBase_ValueError (fun X => refsVE_contains X bm hbm) (X _ _ hC) (looks_findIn X T.iC) (fun self => bind_fn X self T.tI) (Nat.zero_le _) ?_
  refine hall_init0 (s := ⟨(hp.push (kdv_tup [])).push (excO C hp.objs.size), g, dr, tk, os⟩) T I (X.keeps k) (G.keeps k) (Gb.keeps k) hb (hlim.keeps k) hget hnx ?_ fun h' tk' t1 k' hx => ?_
  · show A.depth + 1 < recursionLimit
    exact hroom
  · have old : ∀ b o, hp.get? b = some o → h'.get? b = some o := fun b o e => k' b o (Nat.ne_of_lt (Nat.lt_succ_of_lt (Heap.lt_size e))) (k b o e)
    exact ⟨rfl, hq h' tk' (hp.objs.size + 1) ⟨old, Nat.le_succ _, ⟨_, _, hx, rfl, rfl, rfl, rfl⟩⟩⟩
end
end HallX
end PySem
namespace L2
open PySem PySem.Spec PyProof.Rows PySem.HallX
section
variable {X : Cx} {x qual : Str} {C fI cc cda : Addr} {params : Arguments} {body : List Stmt} {scope : Scope}
theorem pmk_hall0 {p pos : Pos} {k : Nat} (T : HallTxt X.prog X.K X.mg x C fI cc cda qual params body scope) (J : Init0 X.prog X.w qual params body scope)
    (hr : Room k X.A) (hg : Gl X x) (hd : (x == ("__debug__" : Str)) = false := by decide) : PMk X (.Call (.Name x p) [] [] pos) (fun _ H Q => Q (.ref C) none H) := by
  intro pins s σ H Q I h
  refine wpAny_Call_Name_kw (ld_glob I hg T.gC ?_ hd)
  refine PySem.W.callWith_K0 I.kIn T.kC ?_
  have hlim := I.nolimit
  obtain ⟨mb, hb1, hb2⟩ := I.mod.blt
  have G := I.mod.glob.keeps I.bk
  have Gb := hb1.keeps I.bk
  have hb : mb "super" = some (.type "super") := (hb2 "super" (by decide)).trans boot_super
  have hkin := I.kIn
  obtain ⟨hp, g, dr, tk, os⟩ := s
  refine wpAny_call (hall_made0 (mb := mb) T J hkin G Gb hb hlim (by have := hr.dp; omega) fun h' tk' e M => ?_)
  show MkP X pins σ Q (.ref e) ⟨h', g, dr, tk', os⟩
  obtain ⟨oe, fv, hoe, hc, hd, hdat, h1⟩ := M.obj
  have ge : hp.get? e = none := by
    cases q : hp.get? e with
    | none => rfl
    | some o => exact absurd (Heap.lt_size q) (Nat.not_lt.mpr M.new)
  exact ⟨e, oe, fv, ⟨hp, g, dr, tk, os⟩, _, .ref C, none, rfl, I, fun b o q => M.keep b o q, ge, hoe, ⟨hc, hd⟩, hdat, h1, I.hok.fresh M.new, rfl, I.bare, raises_own T.exC T.tyC, h⟩
/-- raise C() -/
theorem ps_raise0 {W : WX} {p pos pos2 : Pos} {k : Nat} (hc : X.calm = true) (T : HallTxt X.prog X.K X.mg x C fI cc cda qual params body scope) (J : Init0 X.prog X.w qual params body scope)
    (hr : Room k X.A) (tk : Takes X W) (hg : Gl X x) (hd : (x == ("__debug__" : Str)) = false := by decide) :
    PS X (.Raise (some (.Call (.Name x p) [] [] pos)) none pos2) (fun _ σ H => W (.ref C) none σ H) := ps_raise hc tk (pmk_hall0 T J hr hg hd)
end
/-- isinstance(e, c) of a caught error without a dict -/
def rIsEn (K : PySem.W.Frag) (a : Addr) (cls : Value) (d : Option Addr) : List V → Hp → VK → Prop := fun xs H Q => ∃ (c : V) (cv : Value) (b : Bool) (D : Addr), xs = [.ref a, c] ∧ cls = .ref D ∧ ExcC K D ∧ d = none ∧
  (∀ u, RelV c u → u = cv) ∧ PySem.W.kitOne K (.ref D) cv = some b ∧ Q (.bl b) H
theorem call_isEn {X : Cx} {a : Addr} {cls : Value} {d : Option Addr} {oe : Obj} {pn : List (Addr × Obj)} (hz : Zc cls d oe) (hf : ∃ vs, oe.data = .fields vs) : CallR (X.suite a ((a, oe) :: pn)) (.builtin "isinstance") (rIsEn X.K a cls d) := by
  intro pins s σ H xs us Q I r h
  obtain ⟨c, cv, b, D, rfl, rfl, C, rfl, hcv, e, q⟩ := h
  exact call_isE C hz hf pins s σ H _ us Q I r ⟨c, cv, b, rfl, hcv, e, q⟩
end L2

/-! Data of tuples, texts and ints in the heap; lists of them; steps over these. -/
namespace L2
open PySem PySem.Spec PyProof.Rows SX TL
/-- the fragment whose tuples are literals of the program's text -/
class Lit where
  K : PySem.W.Frag
abbrev K [Lit] : PySem.W.Frag := Lit.K

variable [Lit]
/-- tuples stand -/
def Tm (H H' : Hp) : Prop := ∀ b xs, H b = some (.tup xs) → H' b = some (.tup xs)
/-- a tuple of the heap, or one of the program's text -/
def TupAt (H : Hp) (a : Addr) (xs : List V) : Prop := H a = some (.tup xs) ∨
  ∃ (o : Obj) (its : Array Value) (n : Nat), (K : PySem.W.Frag).lookup a = some o ∧ o.cls = .type "tuple" ∧ o.data = .seq its n ∧ its.size ≤ sizeLine ∧ Vals xs its.toList
theorem TupAt.sq {H : Hp} {a : Addr} {xs : List V} (h : TupAt H a xs) : SqT K H a xs := h.elim SqT.of .inr
theorem TupAt.tm {H H' : Hp} {a : Addr} {xs : List V} (t : Tm H H') (h : TupAt H a xs) : TupAt H' a xs := h.elim (fun h => .inl (t _ _ h)) .inr
mutual
/-- v stands for d: tuples are the program's own, they never change -/
inductive TD [Lit] (H : Hp) : V → PyData → Prop
  | non : TD H .non .none
  | bl (b : Bool) : TD H (.bl b) (.bool b)
  | int (i : Int) : TD H (.int i) (.int i)
  | str (x : Str) : TD H (.str x) (.str x)
  | tup {a : Addr} {xs : List V} {ds : List PyData} : TupAt H a xs → TDs H xs ds → TD H (.ref a) (.tuple ds)
inductive TDs [Lit] (H : Hp) : List V → List PyData → Prop
  | nil : TDs H [] []
  | cons {v : V} {vs : List V} {d : PyData} {ds : List PyData} : TD H v d → TDs H vs ds → TDs H (v :: vs) (d :: ds)
end
mutual
theorem TD.dp {H : Hp} : ∀ {v : V} {d : PyData}, TD H v d → Dp K H v d
  | _, _, .non => .non
  | _, _, .bl b => .bl b
  | _, _, .int i => .int i
  | _, _, .str x => .str x
  | _, _, .tup h k => .tup h.sq k.dp
theorem TDs.dp {H : Hp} : ∀ {v : List V} {d : List PyData}, TDs H v d → DpAll K H v d
  | _, _, .nil => .nil
  | _, _, .cons h k => .cons h.dp k.dp
end
mutual
theorem TD.tm {H H' : Hp} (t : Tm H H') : ∀ {v : V} {d : PyData}, TD H v d → TD H' v d
  | _, _, .non => .non
  | _, _, .bl b => .bl b
  | _, _, .int i => .int i
  | _, _, .str x => .str x
  | _, _, .tup h k => .tup (h.tm t) (k.tm t)
theorem TDs.tm {H H' : Hp} (t : Tm H H') : ∀ {v : List V} {d : List PyData}, TDs H v d → TDs H' v d
  | _, _, .nil => .nil
  | _, _, .cons h k => .cons (h.tm t) (k.tm t)
end
theorem Tm.refl (H : Hp) : Tm H H := fun _ _ h => h
theorem Tm.tr {H H1 H2 : Hp} (h : Tm H H1) (k : Tm H1 H2) : Tm H H2 := fun b xs e => k b xs (h b xs e)
theorem Tm.same {H H' : Hp} (s : Same H H') : Tm H H' := fun b xs e => s b _ e
theorem Tm.ex {H H' : Hp} {p : Addr} {xs : List V} (hp : H p = some (.lst xs)) (x : Ex p H H') : Tm H H' := fun b ys e => by
  rw [x b (ne_of e hp (by intro z; cases z))]; exact e
/-- all but a stands -/
def Kb (a : Addr) (H H' : Hp) : Prop := ∀ b o, b ≠ a → H b = some o → H' b = some o
theorem Kb.refl (a : Addr) (H : Hp) : Kb a H H := fun _ _ _ h => h
theorem Kb.tr {a : Addr} {H H1 H2 : Hp} (h : Kb a H H1) (k : Kb a H1 H2) : Kb a H H2 := fun b o n e => k b o n (h b o n e)
theorem Kb.same {a : Addr} {H H' : Hp} (s : Same H H') : Kb a H H' := fun b o _ e => s b o e
theorem Kb.then {a : Addr} {H H1 H2 : Hp} (h : Kb a H H1) (s : Same H1 H2) : Kb a H H2 := h.tr (Kb.same s)
theorem Kb.ex {a p : Addr} {H H1 H2 : Hp} (k : Kb a H H1) (hp : H p = none) (x : Ex p H1 H2) : Kb a H H2 := fun b o n e => by
  rw [x b (ne_of_none e hp)]; exact k b o n e
theorem Kb.tm {a : Addr} {H H' : Hp} {xs : List V} (ha : H a = some (.lst xs)) (k : Kb a H H') : Tm H H' := fun b ys e => k b _ (ne_of e ha (by intro z; cases z)) e
theorem Same.ex {p : Addr} {H H1 H2 : Hp} (k : Same H H1) (hp : H p = none) (x : Ex p H1 H2) : Same H H2 := fun b o e => by
  rw [x b (ne_of_none e hp)]; exact k b o e
theorem Same.kb {a : Addr} {H H1 H2 : Hp} (s : Same H H1) (ha : H a = none) (k : Kb a H1 H2) : Same H H2 := fun b o e => k b o (ne_of_none e ha) (s b o e)
theorem Ex.refl (p : Addr) (H : Hp) : Ex p H H := fun _ _ => rfl
/-! inversion -/
section
variable {H : Hp} {v x y z : V} {d e f : PyData} {ds es : List PyData} {xs ys : List V}
theorem TD.tuple (h : TD H v (.tuple ds)) : ∃ a xs, v = .ref a ∧ SqT K H a xs ∧ TDs H xs ds := by
  cases h with
  | tup h k => exact ⟨_, _, rfl, h.sq, k⟩
theorem TD.txt {s : Str} (h : TD H v (.str s)) : v = .str s := by cases h; rfl
theorem TD.num {i : Int} (h : TD H v (.int i)) : v = .int i := by cases h; rfl
theorem TD.none_ (h : TD H v .none) : v = .non := by cases h; rfl
theorem TDs.len (h : TDs H xs ds) : xs.length = ds.length := by
  induction ds generalizing xs with
  | nil => cases h; rfl
  | cons d ds ih => cases h with | cons a b => rw [List.length_cons, List.length_cons, ih b]
theorem TDs.nil_ (h : TDs H xs []) : xs = [] := by cases h; rfl
theorem TDs.cons_ (h : TDs H xs (d :: ds)) : ∃ x ys, xs = x :: ys ∧ TD H x d ∧ TDs H ys ds := by cases h with | cons a b => exact ⟨_, _, rfl, a, b⟩
theorem TDs.one (h : TDs H xs [d]) : ∃ x, xs = [x] ∧ TD H x d := by
  obtain ⟨x, ys, rfl, a, b⟩ := h.cons_; cases b; exact ⟨x, rfl, a⟩
theorem TDs.two (h : TDs H xs [d, e]) : ∃ x y, xs = [x, y] ∧ TD H x d ∧ TD H y e := by
  obtain ⟨x, ys, rfl, a, b⟩ := h.cons_; obtain ⟨y, rfl, c⟩ := b.one; exact ⟨x, y, rfl, a, c⟩
theorem TDs.three (h : TDs H xs [d, e, f]) : ∃ x y z, xs = [x, y, z] ∧ TD H x d ∧ TD H y e ∧ TD H z f := by
  obtain ⟨x, ys, rfl, a, b⟩ := h.cons_; obtain ⟨y, z, rfl, b', c⟩ := b.two; exact ⟨x, y, z, rfl, a, b', c⟩
theorem TDs.get {i : Nat} (h : TDs H xs ds) (e : ds[i]? = some d) : ∃ x, xs[i]? = some x ∧ TD H x d := by
  induction ds generalizing xs i with
  | nil => cases e
  | cons d' ds ih =>
    obtain ⟨x, ys, rfl, a, b⟩ := h.cons_
    cases i with
    | zero => cases e; exact ⟨x, rfl, a⟩
    | succ i => exact ih (xs := ys) b e
theorem TDs.get' {i : Nat} (h : TDs H xs ds) (e : xs[i]? = some x) : ∃ d, ds[i]? = some d ∧ TD H x d := by
  have hi := (List.getElem?_eq_some_iff.mp e).1
  rw [h.len] at hi
  obtain ⟨y, e', t⟩ := h.get (List.getElem?_eq_getElem hi)
  rw [e] at e'; cases e'
  exact ⟨_, List.getElem?_eq_getElem hi, t⟩
theorem TDs.append (h : TDs H xs ds) (k : TDs H ys es) : TDs H (xs ++ ys) (ds ++ es) := by
  induction ds generalizing xs with
  | nil => cases h; exact k
  | cons d ds ih => cases h with | cons a b => exact .cons a (ih b)
theorem TDs.take (h : TDs H xs ds) (n : Nat) : TDs H (xs.take n) (ds.take n) := by
  induction n generalizing xs ds with
  | zero => exact .nil
  | succ n ih =>
    cases ds with
    | nil => cases h; exact .nil
    | cons d ds => cases h with | cons a b => exact .cons a (ih b)
theorem TDs.drop (h : TDs H xs ds) (n : Nat) : TDs H (xs.drop n) (ds.drop n) := by
  induction n generalizing xs ds with
  | zero => exact h
  | succ n ih =>
    cases ds with
    | nil => cases h; exact .nil
    | cons d ds => cases h with | cons a b => exact ih b
theorem TDs.snoc (h : TDs H xs ds) (k : TD H v d) : TDs H (xs ++ [v]) (ds ++ [d]) := h.append (.cons k .nil)
theorem TDs.rev (h : TDs H xs ds) : TDs H xs.reverse ds.reverse := by
  induction ds generalizing xs with
  | nil => cases h; exact .nil
  | cons d ds ih => cases h with | cons a b => rw [List.reverse_cons, List.reverse_cons]; exact (ih b).snoc a
theorem TDs.unsnoc (h : TDs H xs (ds ++ [d])) : ∃ ys x, xs = ys ++ [x] ∧ TDs H ys ds ∧ TD H x d := by
  induction ds generalizing xs with
  | nil => obtain ⟨x, rfl, t⟩ := TDs.one h; exact ⟨[], x, rfl, .nil, t⟩
  | cons d' ds ih =>
    obtain ⟨x, ys, rfl, a, b⟩ := TDs.cons_ h
    obtain ⟨zs, y, rfl, c, t⟩ := ih b
    exact ⟨x :: zs, y, rfl, .cons a c, t⟩
theorem TDs.rep (n : Nat) (h : TDs H xs ds) : TDs H (List.replicate n xs).flatten (List.replicate n ds).flatten := by
  induction n with
  | zero => exact .nil
  | succ n ih => rw [List.replicate_succ, List.replicate_succ, List.flatten_cons, List.flatten_cons]; exact h.append ih
theorem TDs.of {α : Type} {g : α → PyData} {l : List α} (h : ∀ (i : Nat) (d : PyData), (l.map g)[i]? = some d → ∃ x : V, xs[i]? = some x ∧ TD H x d) (hl : xs.length = l.length) : TDs H xs (l.map g) := by
  induction l generalizing xs with
  | nil =>
    have : xs = [] := List.length_eq_zero_iff.mp hl
    subst this; exact .nil
  | cons a l ih =>
    cases xs with
    | nil => cases hl
    | cons x xs =>
      obtain ⟨y, e, t⟩ := h 0 _ rfl
      cases e
      exact .cons t (ih (fun i d e => h (i + 1) d e) (by simpa using hl))
end
/-- a list of data at p -/
def DL (H : Hp) (p : Addr) (ds : List PyData) : Prop := ∃ xs, H p = some (.lst xs) ∧ TDs H xs ds
section
variable {H H' : Hp} {p : Addr} {ds es : List PyData}
theorem DL.lst (h : DL H p ds) : ∃ xs, H p = some (.lst xs) := let ⟨xs, e, _⟩ := h; ⟨xs, e⟩
theorem DL.same (h : DL H p ds) (s : Same H H') : DL H' p ds := let ⟨xs, e, t⟩ := h; ⟨xs, s _ _ e, t.tm (Tm.same s)⟩
theorem DL.kb {a : Addr} {xs : List V} (h : DL H p ds) (k : Kb a H H') (n : p ≠ a) (ha : H a = some (.lst xs)) : DL H' p ds := let ⟨xs, e, t⟩ := h; ⟨xs, k _ _ n e, t.tm (k.tm ha)⟩
theorem DL.ex {q : Addr} (h : DL H p ds) (x : Ex q H H') (n : p ≠ q) {xs : List V} (hq : H q = some (.lst xs)) : DL H' p ds := let ⟨xs, e, t⟩ := h; ⟨xs, by rw [x p n]; exact e, t.tm (Tm.ex hq x)⟩
theorem DL.tm_ex (h : DL H p ds) (x : Ex p H H') : Tm H H' := let ⟨_, e⟩ := h.lst; Tm.ex e x
end
section
variable {σ : St} {H : Hp} {v x y : V} {Q : VK} {tA : TA} {te : TE} {p q : Addr} {d e : PyData} {ds es : List PyData} {xs ys : List V}
/-! steps -/
theorem t_ix {n : Nat} (h : TD H v (.tuple ds)) (e : ds[n]? = some d) (k : ∀ x, TD H x d → Q x H) : rIxT K v (.int (n : Int)) H Q := by
  obtain ⟨a, xs, rfl, ha, t⟩ := h.tuple
  obtain ⟨x, ex, tx⟩ := t.get e
  exact w_ixU ha ex (k x tx)
theorem t_ixS {n : Nat} {s : Str} (h : TD H v (.tuple ds)) (e : ds[n]? = some (.str s)) (k : Q (.str s) H) : rIxT K v (.int (n : Int)) H Q := t_ix h e fun x tx => by rw [tx.txt]; exact k
theorem t_ixI {n : Nat} {i : Int} (h : TD H v (.tuple ds)) (e : ds[n]? = some (.int i)) (k : Q (.int i) H) : rIxT K v (.int (n : Int)) H Q := t_ix h e fun x tx => by rw [tx.num]; exact k
theorem l_ix {n : Nat} (h : DL H p ds) (e : ds[n]? = some d) (k : ∀ x, TD H x d → Q x H) : rIxL K (.ref p) (.int (n : Int)) H Q := by
  obtain ⟨xs, hp, t⟩ := h
  obtain ⟨x, ex, tx⟩ := t.get e
  exact w_ixL (SqL.of hp) ex (k x tx)
theorem l_len (h : DL H p ds) (k : Q (.int (ds.length : Int)) H) : rLenQ K [.ref p] H Q := by
  obtain ⟨xs, hp, t⟩ := h
  refine w_lenL (SqL.of hp) ?_
  rw [t.len]; exact k
theorem t_len (h : TD H v (.tuple ds)) (k : Q (.int (ds.length : Int)) H) : rLenQ K [v] H Q := by
  obtain ⟨a, xs, rfl, ha, t⟩ := h.tuple
  refine w_lenU ha ?_
  rw [t.len]; exact k
theorem l_ty {F : Prop} (h : DL H p ds) (k : F) : tyV K "list" (.ref p) H ∧ F := let ⟨_, e, _⟩ := h; n_lTy e k
theorem l_app (h : DL H p ds) (hv : TD H v d) (k : ∀ H', DL H' p (ds ++ [d]) → Ex p H H' → Q .non H') (hz : ds.length ≤ 100000 := by omega) : rAppend (.ref p) [v] H Q := by
  obtain ⟨xs, hp, t⟩ := h
  refine n_app hp (by rw [t.len]; exact hz) (fun H' e x => ?_)
  have tm := Tm.ex hp x
  exact k H' ⟨_, e, (t.tm tm).snoc (hv.tm tm)⟩ x
theorem l_pop (h : DL H p (ds ++ [d])) (k : ∀ x H', TD H' x d → DL H' p ds → Ex p H H' → Q x H') : rPop (.ref p) [] H Q := by
  obtain ⟨xs, hp, t⟩ := h
  obtain ⟨ys, x, rfl, t1, t2⟩ := t.unsnoc
  have ex : Ex p H (upd H p (.lst ys)) := fun b hb => upd_ne hb
  have tm := Tm.ex hp ex
  refine ⟨p, _, x, rfl, rfl, hp, ?_, ?_⟩
  · rw [List.length_append, List.length_singleton, Nat.add_sub_cancel]
    exact List.getElem?_concat_length
  · rw [List.dropLast_concat]
    exact k x _ (t2.tm tm) ⟨ys, upd_same, t1.tm tm⟩ ex
theorem t_new (t : TDs H xs ds) (k : ∀ p H', H p = none → Same H H' → TD H' (.ref p) (.tuple ds) → Q (.ref p) H') (hz : xs.length ≤ 4096 := by exact Nat.le_of_ble_eq_true rfl) : NewT xs H Q :=
  n_T (fun p H' hp s e => k p H' hp s (.tup (.inl e) (t.tm (Tm.same s)))) hz
theorem l_new (t : TDs H xs ds) (k : ∀ p H', H p = none → Same H H' → DL H' p ds → Q (.ref p) H') (hz : xs.length ≤ 4096 := by exact Nat.le_of_ble_eq_true rfl) : NewL xs H Q :=
  n_L (fun p H' hp s e => k p H' hp s ⟨xs, e, t.tm (Tm.same s)⟩) hz
theorem l_cat (h1 : DL H p ds) (h2 : DL H q es) (k : ∀ t H', H t = none → Same H H' → DL H' t (ds ++ es) → Q (.ref t) H') (hz : ds.length + es.length ≤ 100000 := by omega) : rCat (.ref p) (.ref q) H Q := by
  obtain ⟨xs, hp, t1⟩ := h1
  obtain ⟨ys, hq, t2⟩ := h2
  exact n_cat hp hq (by rw [t1.len, t2.len]; exact hz) fun t H' ht s e => k t H' ht s ⟨_, e, (t1.append t2).tm (Tm.same s)⟩
theorem l_rep {n : Nat} (h : DL H p ds) (k : ∀ t H', H t = none → Same H H' → DL H' t (List.replicate n ds).flatten → Q (.ref t) H') (hz : ds.length * n ≤ 100000) (hn : n ≤ 100000 := by omega) : rRep (.ref p) (.int (n : Int)) H Q := by
  obtain ⟨xs, hp, t1⟩ := h
  exact n_rep hp (by rw [t1.len]; exact hz) hn fun t H' ht s e => k t H' ht s ⟨_, e, (t1.rep n).tm (Tm.same s)⟩
theorem l_to {b : Nat} (h : DL H p ds) (k : ∀ t H', H t = none → Same H H' → DL H' t (ds.take b) → Q (.ref t) H') : rSlL K (.ref p) none (some (b : Int)) H Q := by
  obtain ⟨xs, hp, t1⟩ := h
  exact n_to (SqL.of hp) fun t H' ht s e => k t H' ht s ⟨_, e, (t1.take b).tm (Tm.same s)⟩
theorem l_from {b : Nat} (h : DL H p ds) (k : ∀ t H', H t = none → Same H H' → DL H' t (ds.drop b) → Q (.ref t) H') : rSlL K (.ref p) (some (b : Int)) none H Q := by
  obtain ⟨xs, hp, t1⟩ := h
  exact n_from (SqL.of hp) fun t H' ht s e => k t H' ht s ⟨_, e, (t1.drop b).tm (Tm.same s)⟩
theorem w_revL (h : te σ H fun x H1 => ∃ a xs, x = .ref a ∧ SqL K H1 a xs ∧ ∀ p, H1 p = none → Q (.ref p) (upd H1 p (.lst xs.reverse))) : tRevL K te σ H Q := h
theorem l_rev (h : DL H p ds) (k : ∀ t H', H t = none → Same H H' → DL H' t ds.reverse → Q (.ref t) H') : ∃ a xs, V.ref p = .ref a ∧ SqL K H a xs ∧ ∀ p, H p = none → Q (.ref p) (upd H p (.lst xs.reverse)) := by
  obtain ⟨xs, hp, t1⟩ := h
  exact ⟨p, xs, rfl, SqL.of hp, fun t ht => k t _ ht (same_upd ht) ⟨_, upd_same, t1.rev.tm (Tm.same (same_upd ht))⟩⟩
/-- tuples joined -/
theorem t_cat (h1 : TD H x (.tuple ds)) (h2 : TD H y (.tuple es)) (hn : ds ≠ []) (k : ∀ z H', Same H H' → TD H' z (.tuple (ds ++ es)) → Q z H') (hz : ds.length + es.length ≤ 100000 := by omega) : rCatT K x y H Q := by
  obtain ⟨a, xs, rfl, ha, t1⟩ := h1.tuple
  obtain ⟨b, ys, rfl, hb, t2⟩ := h2.tuple
  have l1 := t1.len
  have l2 := t2.len
  refine ⟨a, b, xs, ys, rfl, rfl, ha, hb, fun z => ?_, Nat.le_trans (by omega) (show 100000 ≤ sizeLine by decide), fun z => ?_, fun z p hp => ?_⟩
  · rw [z] at l1
    exact hn (List.length_eq_zero_iff.mp l1.symm)
  · rw [z] at l2
    have : es = [] := List.length_eq_zero_iff.mp l2.symm
    subst this
    refine k _ H (Same.refl H) ?_
    rw [List.append_nil]; exact h1
  · have s := same_upd (o := .tup (xs ++ ys)) hp
    exact k _ _ s (.tup (.inl upd_same) ((t1.append t2).tm (Tm.same s)))
/-! equality -/
def Sz (n : Nat) (d : PyData) : Prop := d.canLay0 = true ∧ d.depth ≤ n
theorem d_eq (hx : TD H x d) (hy : TD H y e) (sd : Sz 180 d) (se : Sz 180 e) (k : Q (.bl (PyData.eqv d e)) H) : rEqN K x y H Q := ⟨d, e, ⟨hx.dp, sd⟩, ⟨hy.dp, se⟩, k⟩
theorem d_ne (hx : TD H x d) (hy : TD H y e) (sd : Sz 180 d) (se : Sz 180 e) (k : Q (.bl (!PyData.eqv d e)) H) : rNeN K x y H Q := ⟨d, e, ⟨hx.dp, sd⟩, ⟨hy.dp, se⟩, k⟩
theorem d_inL (hx : TD H x d) (hy : DL H p ds) (sd : Sz 180 d) (se : Sz 180 (.list ds)) (k : Q (.bl (ds.any fun z => PyData.eqv z d)) H) : rInN K x (.ref p) H Q := by
  obtain ⟨xs, hp, t⟩ := hy
  exact ⟨d, ds, ⟨hx.dp, sd⟩, ⟨.lst (SqL.of hp) t.dp, se⟩, k⟩
theorem d_ninL (hx : TD H x d) (hy : DL H p ds) (sd : Sz 180 d) (se : Sz 180 (.list ds)) (k : Q (.bl (!ds.any fun z => PyData.eqv z d)) H) : rNotInN K x (.ref p) H Q := by
  obtain ⟨xs, hp, t⟩ := hy
  exact ⟨d, ds, ⟨hx.dp, sd⟩, ⟨.lst (SqL.of hp) t.dp, se⟩, k⟩
theorem d_repr (hx : TD H x (.tuple ds)) (sd : Sz 180 (.tuple ds)) (h1 : (PyData.tuple ds).showable = true) (h2 : (PyData.tuple ds).shown.length ≤ 16777216) (k : Q (.str (PyData.tuple ds).shown) H) : rRepr K [x] H Q := by
  obtain ⟨a, xs, rfl, ha, t⟩ := hx.tuple
  exact ⟨a, _, rfl, ⟨hx.dp, sd⟩, h1, by rw [sizeLine_eq]; exact h2, k⟩
/-! isinstance -/
theorem TD.ty_tup (h : TD H v (.tuple ds)) : TyX K H v (.type "tuple") := by
  cases h with
  | tup h k =>
    rcases h with h | ⟨o, its, n, h1, h2, _⟩
    · exact .base (.tup h)
    · exact .kTuple h1 h2
def tyOf : PyData → String
  | .none => "NoneType" | .bool _ => "bool" | .int _ => "int" | .str _ => "str" | .list _ => "list" | .tuple _ => "tuple" | .dict _ => "dict"
theorem TD.ty (h : TD H v d) : TyX K H v (.type (tyOf d)) := by
  cases h with
  | non => exact .base .non
  | bl b => exact .base (.bl b)
  | int i => exact .base (.int i)
  | str s => exact .base (.str s)
  | tup h k => exact TD.ty_tup (.tup h k)
end
open PySem.AutoSeq1 in
theorem extendT_meets (l : Addr) (items : Array Value) (n : Nat) (b : Addr) (items2 : Array Value) (n2 : Nat) (dd : Option Addr) (sl : Array (Option Value)) (h0 : ¬ (!items.isEmpty && Builtin.List.listTooLong (items.size + items2.size)) = true) (h1 : items.size ≤ sizeLine) (h2 : items.size + items2.size ≤ sizeLine + 1) :
    Meets (Builtin.«list.extend» ⟨[.ref l, .ref b], []⟩) (fun _ R s => s.heap.get? l = some { cls := .type "list", dict := none, data := .seq items n, slots := #[] } ∧ s.heap.get? b = some { cls := .type "tuple", dict := dd, data := .seq items2 n2, slots := sl } ∧ R (.ok (.ret Value.none)) { s with heap := s.heap.update l (Obj.mapSeq fun x => x ++ items2), toks := s.toks }) :=
  .of_wp fun prog w A R s h => by
    obtain ⟨hp, g, d, tk, os⟩ := s
    obtain ⟨hl, hb, h⟩ := h
    have f1 := AutoSeq1.idx_int
    have f2 := AutoSeq1.sub_tuple_tuple
    have f3 := AutoSeq1.sub_list_list
    have f4 := AutoSeq1.sub_tuple_list
    have f5 := AutoSeq1.sub_list_tuple
    have hz' : (items ++ items2).size ≤ sizeLine + 1 := by rw [Array.size_append]; exact h2
    wp_walk using (wpAny_updateSeq hl rfl (hz := h1) (_hz' := hz')), wpAny_loadPart' hl, wpAny_loadPart' hb
    exact ⟨_, rfl, h⟩
/-- extend by a tuple -/
def rExtendT (KF : PySem.W.Frag) : V → List V → Hp → VK → Prop := fun x vs H Q => ∃ l b xs zs, x = .ref l ∧ vs = [.ref b] ∧ H l = some (.lst xs) ∧ SqT KF H b zs ∧ xs.length + zs.length ≤ sizeLine ∧ Q .non (upd H l (.lst (xs ++ zs)))
theorem mt_extendT {X : Cx} : MtR X "list.extend" (rExtendT X.K) := by
  intro pins s σ H x vs v us Q I rx rv h
  obtain ⟨l, b, xs, zs, rfl, rfl, hH, hB, hz, q⟩ := h
  cases rx
  obtain ⟨u, rfl, ru⟩ := rv.one
  cases ru
  obtain ⟨z, its, n, r, hl, e⟩ := I.lstM hH
  obtain ⟨its2, r2, pT, hl2⟩ := I.tuple hB
  obtain ⟨⟨cls, dd, data, sls⟩, ho, hc, n2, hdt⟩ := pT
  dsimp only at hc hdt
  subst hc hdt
  have r2l := r2.length
  have hsz : its.toArray.size + its2.toArray.size ≤ sizeLine := by rw [List.size_toArray, List.size_toArray]; omega
  have hlong : ¬ (!its.toArray.isEmpty && Builtin.List.listTooLong (its.toArray.size + its2.toArray.size)) = true := by
    rw [notLongL hsz, Bool.and_false]
    exact Bool.false_ne_true
  refine call_meets F.slot_list_extend ⟨_, e, rfl⟩ F.entry_list_extend (F.args_list_extend_2 _ _)
    (extendT_meets l its.toArray n b its2.toArray n2 dd sls hlong (by rw [List.size_toArray]; omega) (by omega)) ⟨e, ho, ?_⟩
  refine ⟨.non, _, I.lset (its' := its ++ its2) hH e (by simp) (r.append r2) ?_, rfl, q⟩
  rw [List.length_append]
  omega
section
variable {H : Hp} {v : V} {Q : VK} {p : Addr} {ds es : List PyData}
theorem l_extT (h : DL H p ds) (hv : TD H v (.tuple es)) (k : ∀ H', DL H' p (ds ++ es) → Ex p H H' → Q .non H') (hz : ds.length + es.length ≤ 100000 := by omega) : rExtendT K (.ref p) [v] H Q := by
  obtain ⟨xs, hp, t⟩ := h
  obtain ⟨b, ys, rfl, hb, u⟩ := hv.tuple
  have ex : Ex p H (upd H p (.lst (xs ++ ys))) := fun b hb => upd_ne hb
  have tm := Tm.ex hp ex
  exact ⟨p, b, xs, ys, rfl, rfl, hp, hb, Nat.le_trans (by rw [t.len, u.len]; exact hz) (show 100000 ≤ sizeLine by decide), k _ ⟨_, upd_same, (t.append u).tm tm⟩ ex⟩
theorem l_extL {q : Addr} (h : DL H p ds) (hv : DL H q es) (k : ∀ H', DL H' p (ds ++ es) → Ex p H H' → Q .non H') (hz : ds.length + es.length ≤ 100000 := by omega) : rExtend (.ref p) [.ref q] H Q := by
  obtain ⟨xs, hp, t⟩ := h
  obtain ⟨ys, hb, u⟩ := hv
  have ex : Ex p H (upd H p (.lst (xs ++ ys))) := fun b hb => upd_ne hb
  have tm := Tm.ex hp ex
  exact ⟨p, q, xs, ys, rfl, rfl, hp, hb, Nat.le_trans (by rw [t.len, u.len]; exact hz) (show 100000 ≤ sizeLine by decide), k _ ⟨_, upd_same, (t.append u).tm tm⟩ ex⟩
end
end L2

/-! Constants of the program's text that are nested tuples: data. -/
namespace L2
open PySem PySem.Spec PyProof.Rows SX TL
def vOf : Value → V
  | .bool b => .bl b
  | .int i _ => .int i
  | .str x _ => .str x
  | .ref a => .ref a
  | _ => .non
mutual
def litB (KF : PySem.W.Frag) : PyData → Value → Bool
  | .none, .none => true
  | .bool c, .bool b => b == c
  | .int j, .int i _ => i == j
  | .str y, .str x _ => x == y
  | .tuple ds, .ref a => (match KF.lookup a with
    | some ⟨.type c, _, .seq its _, _⟩ => decide (c = "tuple") && (decide (its.size ≤ sizeLine) && litAll KF ds its.toList)
    | _ => false)
  | _, _ => false
def litAll (KF : PySem.W.Frag) : List PyData → List Value → Bool
  | [], [] => true
  | d :: ds, u :: us => litB KF d u && litAll KF ds us
  | _, _ => false
end
mutual
theorem litB_ok (KF : PySem.W.Frag) : ∀ (d : PyData) (u : Value), litB KF d u = true → RelV (vOf u) u ∧ ∀ H, @TD ⟨KF⟩ H (vOf u) d
  | .none, u, h => by
    cases u <;> first | (unfold litB at h; cases h; done) | exact ⟨rfl, fun H => @TD.non ⟨KF⟩ H⟩
  | .bool c, u, h => by
    cases u <;> first
      | (unfold litB at h; cases h; done)
      | (unfold litB at h; cases (beq_iff_eq.mp h); exact ⟨rfl, fun H => @TD.bl ⟨KF⟩ H _⟩)
  | .int j, u, h => by
    cases u <;> first
      | (unfold litB at h; cases h; done)
      | (unfold litB at h; cases (beq_iff_eq.mp h); exact ⟨⟨_, rfl⟩, fun H => @TD.int ⟨KF⟩ H _⟩)
  | .str y, u, h => by
    cases u <;> first
      | (unfold litB at h; cases h; done)
      | (unfold litB at h; cases (beq_iff_eq.mp h); exact ⟨⟨_, rfl⟩, fun H => @TD.str ⟨KF⟩ H _⟩)
  | .list ds, u, h => by cases u <;> (unfold litB at h; cases h)
  | .dict ds, u, h => by cases u <;> (unfold litB at h; cases h)
  | .tuple ds, u, h => by
    cases u with
    | ref a =>
      unfold litB at h
      split at h
      · rename_i c dd its n sl e
        rw [Bool.and_eq_true, Bool.and_eq_true, decide_eq_true_eq, decide_eq_true_eq] at h
        obtain ⟨rfl, h2, h3⟩ := h
        obtain ⟨r, t⟩ := litAll_ok KF ds its.toList h3
        exact ⟨rfl, fun H => @TD.tup ⟨KF⟩ H a _ ds (.inr ⟨_, its, n, e, rfl, rfl, h2, r⟩) (t H)⟩
      · cases h
    | _ => unfold litB at h; cases h
theorem litAll_ok (KF : PySem.W.Frag) : ∀ (ds : List PyData) (us : List Value), litAll KF ds us = true → Vals (us.map vOf) us ∧ ∀ H, @TDs ⟨KF⟩ H (us.map vOf) ds
  | [], [], _ => ⟨.nil, fun H => @TDs.nil ⟨KF⟩ H⟩
  | [], _ :: _, h => by unfold litAll at h; cases h
  | _ :: _, [], h => by unfold litAll at h; cases h
  | d :: ds, u :: us, h => by
    unfold litAll at h
    rw [Bool.and_eq_true] at h
    obtain ⟨r, t⟩ := litB_ok KF d u h.1
    obtain ⟨rs, ts⟩ := litAll_ok KF ds us h.2
    exact ⟨.cons r rs, fun H => @TDs.cons ⟨KF⟩ H _ _ _ _ (t H) (ts H)⟩
end
theorem lit_ref {KF : PySem.W.Frag} {a : Addr} {d : PyData} (h : litB KF d (.ref a) = true) (H : Hp) : @TD ⟨KF⟩ H (.ref a) d := (litB_ok KF d _ h).2 H
/-- what a dict of the text has at a text key, where that is an object -/
def valA (KF : PySem.W.Frag) (d : Addr) (z : Str) : Addr := match PySem.W.nsIn KF d z with
  | some (some (.ref b)) => b
  | _ => 0
end L2

namespace K03
open PySem PySem.Spec PyProof.Rows L2
abbrev P : Program := PySem.Challenge.pw_lemmahall_k03_formulas_and_places
def top (i : Nat) : Stmt := PySem.Challenge.pw_lemmahall_k03_formulas_and_places.main.body.getD i (.Pass ⟨0, 0, 0, 0⟩)
abbrev s_fun_kind : Stmt := top 2
abbrev s_match_kind : Stmt := top 3
abbrev s_const : Stmt := top 5
abbrev s_app : Stmt := top 6
abbrev s_lam : Stmt := top 7
abbrev s_kind_within : Stmt := top 8
abbrev s_abstracted : Stmt := top 9
abbrev s_abstract : Stmt := top 10
abbrev s_child : Stmt := top 11
abbrev s_part_at : Stmt := top 12
abbrev s_places : Stmt := top 13
abbrev s_equation : Stmt := top 19
abbrev s_negation : Stmt := top 20
abbrev s_nested : Stmt := top 21
abbrev s_conjunction : Stmt := top 22
abbrev s_disjunction : Stmt := top 23
abbrev s_implication : Stmt := top 24
abbrev s_quantified : Stmt := top 25
abbrev s_for_all : Stmt := top 26
abbrev s_for_some : Stmt := top 27
abbrev s_spine : Stmt := top 28
abbrev s_read_formula : Stmt := top 29
abbrev s_law_pot : Stmt := top 31
abbrev s_law_take : Stmt := top 32
abbrev s_law_mended : Stmt := top 33
abbrev s_law_name : Stmt := top 34
abbrev s_law_near : Stmt := top 35
abbrev s_law_words : Stmt := top 36
abbrev s_law_same : Stmt := top 37
abbrev s_law_pool : Stmt := top 38
abbrev s_law_signs : Stmt := top 39
abbrev s_law_tip : Stmt := top 40
abbrev s_law_grow_formula : Stmt := top 41
abbrev s_law_grown : Stmt := top 42
abbrev s_law_levels : Stmt := top 43
abbrev s_law_abstracted : Stmt := top 44
abbrev s_law_extents : Stmt := top 45
abbrev s_law_parts : Stmt := top 46
abbrev s_law_built : Stmt := top 47
abbrev s_law_spots : Stmt := top 48
abbrev s_law_read : Stmt := top 49
abbrev s_law_spine : Stmt := top 50
abbrev s_law_ask_places : Stmt := top 51
abbrev s_law_ask_reading : Stmt := top 52
abbrev s_law_conjunction : Stmt := top 53
abbrev s_law_disjunction : Stmt := top 54
abbrev s_law_implication : Stmt := top 55
abbrev s_law_nested : Stmt := top 56
abbrev s_law_ask_joined : Stmt := top 57
abbrev s_law_ask_equation : Stmt := top 58
abbrev s_law_ask_quantified : Stmt := top 59
abbrev s_law : Stmt := top 60
def dd (x : Str) (i : Nat) : He.DefD := ⟨(x, none), x, x, defArgs (top i), defBody (top i), defScope (top i), [], []⟩
def ddm (c m q : Str) (i j : Nat) : He.DefD := ⟨(c, some m), m, q, defArgs (inClass (top i) j), defBody (inClass (top i) j), defScope (inClass (top i) j), [], []⟩
def fn : List He.DefD := ([dd "fun_kind" 2, dd "match_kind" 3, dd "const" 5, dd "app" 6, dd "lam" 7, dd "kind_within" 8, dd "_abstracted" 9, dd "abstract" 10, dd "_child" 11, dd "part_at" 12, dd "places" 13, dd "equation" 19, dd "negation" 20, dd "_nested" 21, dd "conjunction" 22, dd "disjunction" 23, dd "implication" 24, dd "_quantified" 25, dd "for_all" 26, dd "for_some" 27, dd "spine" 28, dd "read_formula" 29, dd "_law_pot" 31, dd "_law_take" 32] : List He.DefD) ++ ([dd "_law_mended" 33, dd "_law_name" 34, dd "_law_near" 35, dd "_law_words" 36, dd "_law_same" 37, dd "_law_pool" 38, dd "_law_signs" 39, dd "_law_tip" 40, dd "_law_grow_formula" 41, dd "_law_grown" 42, dd "_law_levels" 43, dd "_law_abstracted" 44, dd "_law_extents" 45, dd "_law_parts" 46, dd "_law_built" 47, dd "_law_spots" 48, dd "_law_read" 49, dd "_law_spine" 50, dd "_law_ask_places" 51, dd "_law_ask_reading" 52, dd "_law_conjunction" 53, dd "_law_disjunction" 54, dd "_law_implication" 55, dd "_law_nested" 56] : List He.DefD) ++ ([dd "_law_ask_joined" 57, dd "_law_ask_equation" 58, dd "_law_ask_quantified" 59, dd "law" 60] : List He.DefD)
def fa : List He.Fa := ([.glo "fun_kind", .glo "match_kind", .glo "const", .glo "app", .glo "lam", .glo "kind_within", .glo "_abstracted", .glo "abstract", .glo "_child", .glo "part_at", .glo "places", .glo "equation", .glo "negation", .glo "_nested", .glo "conjunction", .glo "disjunction", .glo "implication", .glo "_quantified", .glo "for_all", .glo "for_some", .glo "spine", .glo "read_formula", .glo "_law_pot", .glo "_law_take"] : List He.Fa) ++ ([.glo "_law_mended", .glo "_law_name", .glo "_law_near", .glo "_law_words", .glo "_law_same", .glo "_law_pool", .glo "_law_signs", .glo "_law_tip", .glo "_law_grow_formula", .glo "_law_grown", .glo "_law_levels", .glo "_law_abstracted", .glo "_law_extents", .glo "_law_parts", .glo "_law_built", .glo "_law_spots", .glo "_law_read", .glo "_law_spine", .glo "_law_ask_places", .glo "_law_ask_reading", .glo "_law_conjunction", .glo "_law_disjunction", .glo "_law_implication", .glo "_law_nested"] : List He.Fa) ++ ([.glo "_law_ask_joined", .glo "_law_ask_equation", .glo "_law_ask_quantified", .glo "law", .free "reversed", .free "list", .free "tuple", .free "len", .free "abs", .free "int", .free "range", .free "isinstance", .free "repr", .free "max", .free "min", .glo "BOOL", .glo "TRUE", .glo "FALSE", .glo "LOGIC_KINDS", .glo "_READ_AS"] : List He.Fa)
def hs : List HallHt.HallD := []
def file : Str := PySem.Challenge.pw_lemmahall_k03_formulas_and_places.main.file
def tb_BOOL : List He.Dv := ([.str "named", .str "bool"] : List He.Dv)
def td_LOGIC_KINDS : List (Str × He.Dv) := [("true", .adr fun K => L2.valA K (He.ga K "LOGIC_KINDS") "true"), ("false", .adr fun K => L2.valA K (He.ga K "LOGIC_KINDS") "false"), ("~", .adr fun K => L2.valA K (He.ga K "LOGIC_KINDS") "~"), ("&", .adr fun K => L2.valA K (He.ga K "LOGIC_KINDS") "&"), ("|", .adr fun K => L2.valA K (He.ga K "LOGIC_KINDS") "|"), ("=>", .adr fun K => L2.valA K (He.ga K "LOGIC_KINDS") "=>"), ("=", .adr fun K => L2.valA K (He.ga K "LOGIC_KINDS") "="), ("all", .adr fun K => L2.valA K (He.ga K "LOGIC_KINDS") "all"), ("some", .adr fun K => L2.valA K (He.ga K "LOGIC_KINDS") "some")]
def td_READ_AS : List (Str × He.Dv) := [("true", .adr fun K => L2.valA K (He.ga K "_READ_AS") "true"), ("false", .adr fun K => L2.valA K (He.ga K "_READ_AS") "false"), ("~", .adr fun K => L2.valA K (He.ga K "_READ_AS") "~"), ("&", .adr fun K => L2.valA K (He.ga K "_READ_AS") "&"), ("|", .adr fun K => L2.valA K (He.ga K "_READ_AS") "|"), ("=>", .adr fun K => L2.valA K (He.ga K "_READ_AS") "=>"), ("=", .adr fun K => L2.valA K (He.ga K "_READ_AS") "="), ("all", .adr fun K => L2.valA K (He.ga K "_READ_AS") "all"), ("some", .adr fun K => L2.valA K (He.ga K "_READ_AS") "some")]
def ts : List He.Tab := [((fun K => He.ga K "LOGIC_KINDS"), td_LOGIC_KINDS.map (·.1)), ((fun K => He.ga K "_READ_AS"), td_READ_AS.map (·.1))]
def exl (K : PySem.W.Frag) : List Bool := ([He.valsB K (He.ga K "LOGIC_KINDS") td_LOGIC_KINDS, He.valsB K (He.ga K "_READ_AS") td_READ_AS, He.tupB K "BOOL" tb_BOOL, L2.litB K (.tuple [.str "named", .str "bool"]) (.ref (He.ga K "BOOL")), L2.litB K (.tuple [.str "const", .str "true", (.tuple [.str "named", .str "bool"])]) (.ref (He.ga K "TRUE")), L2.litB K (.tuple [.str "const", .str "false", (.tuple [.str "named", .str "bool"])]) (.ref (He.ga K "FALSE")), L2.litB K (.tuple [.str "named", .str "bool"]) (.ref (L2.valA K (He.ga K "LOGIC_KINDS") "true")), L2.litB K (.tuple [.str "named", .str "bool"]) (.ref (L2.valA K (He.ga K "LOGIC_KINDS") "false")), L2.litB K (.tuple [.str "to", (.tuple [.str "named", .str "bool"]), (.tuple [.str "named", .str "bool"])]) (.ref (L2.valA K (He.ga K "LOGIC_KINDS") "~")), L2.litB K (.tuple [.str "to", (.tuple [.str "named", .str "bool"]), (.tuple [.str "to", (.tuple [.str "named", .str "bool"]), (.tuple [.str "named", .str "bool"])])]) (.ref (L2.valA K (He.ga K "LOGIC_KINDS") "&")), L2.litB K (.tuple [.str "to", (.tuple [.str "named", .str "bool"]), (.tuple [.str "to", (.tuple [.str "named", .str "bool"]), (.tuple [.str "named", .str "bool"])])]) (.ref (L2.valA K (He.ga K "LOGIC_KINDS") "|")), L2.litB K (.tuple [.str "to", (.tuple [.str "named", .str "bool"]), (.tuple [.str "to", (.tuple [.str "named", .str "bool"]), (.tuple [.str "named", .str "bool"])])]) (.ref (L2.valA K (He.ga K "LOGIC_KINDS") "=>")), L2.litB K (.tuple [.str "to", (.tuple [.str "free", .str "k"]), (.tuple [.str "to", (.tuple [.str "free", .str "k"]), (.tuple [.str "named", .str "bool"])])]) (.ref (L2.valA K (He.ga K "LOGIC_KINDS") "=")), L2.litB K (.tuple [.str "to", (.tuple [.str "to", (.tuple [.str "free", .str "k"]), (.tuple [.str "named", .str "bool"])]), (.tuple [.str "named", .str "bool"])]) (.ref (L2.valA K (He.ga K "LOGIC_KINDS") "all")), L2.litB K (.tuple [.str "to", (.tuple [.str "to", (.tuple [.str "free", .str "k"]), (.tuple [.str "named", .str "bool"])]), (.tuple [.str "named", .str "bool"])]) (.ref (L2.valA K (He.ga K "LOGIC_KINDS") "some")), L2.litB K (.tuple [.str "true", .int 0]) (.ref (L2.valA K (He.ga K "_READ_AS") "true")), L2.litB K (.tuple [.str "false", .int 0]) (.ref (L2.valA K (He.ga K "_READ_AS") "false")), L2.litB K (.tuple [.str "not", .int 1]) (.ref (L2.valA K (He.ga K "_READ_AS") "~")), L2.litB K (.tuple [.str "and", .int 2]) (.ref (L2.valA K (He.ga K "_READ_AS") "&")), L2.litB K (.tuple [.str "or", .int 2]) (.ref (L2.valA K (He.ga K "_READ_AS") "|")), L2.litB K (.tuple [.str "implies", .int 2]) (.ref (L2.valA K (He.ga K "_READ_AS") "=>")), L2.litB K (.tuple [.str "equal", .int 2]) (.ref (L2.valA K (He.ga K "_READ_AS") "=")), L2.litB K (.tuple [.str "all", .int 1]) (.ref (L2.valA K (He.ga K "_READ_AS") "all")), L2.litB K (.tuple [.str "some", .int 1]) (.ref (L2.valA K (He.ga K "_READ_AS") "some"))] : List Bool)
def ex (K : PySem.W.Frag) : Bool := (exl K).all id
abbrev R : PySem.W.OpenRow := PySem.W.OpenLaw.row PySem.Challenge.rw_lemmahall_k03_formulas_and_places
abbrev hk : PySem.W.Hook := HallHt.hookH 5 fa fn hs ex ts
def ob (s : PySem.W.SharedT) : HallHt.AlH := HallHt.obsHG 5 fa fn hs ex ts (HandSHeadRun.getT s)
theorem ob_eq (s : PySem.W.SharedT) : ob s = hk.obs s.abs := HallHt.obsHG_eq (HandSHeadRun.getT_eq s)
def loose : List PySem.Str := (["BOOL", "TRUE", "FALSE", "LOGIC_KINDS", "_READ_AS", "fun_kind", "match_kind", "const", "app", "lam", "kind_within", "_abstracted", "abstract", "_child", "part_at", "places", "equation", "negation", "_nested", "conjunction", "disjunction", "implication", "_quantified", "for_all"] : List PySem.Str) ++ (["for_some", "spine", "read_formula", "_law_pot", "_law_take", "_law_mended", "_law_name", "_law_near", "_law_words", "_law_same", "_law_pool", "_law_signs", "_law_tip", "_law_grow_formula", "_law_grown", "_law_levels", "_law_abstracted", "_law_extents", "_law_parts", "_law_built", "_law_spots", "_law_read", "_law_spine", "_law_ask_places"] : List PySem.Str) ++ (["_law_ask_reading", "_law_conjunction", "_law_disjunction", "_law_implication", "_law_nested", "_law_ask_joined", "_law_ask_equation", "_law_ask_quantified"] : List PySem.Str)
theorem run (w : World) : HandSHeadRun.RunEq R (PySem.W.view R.prog [60]) hk ob 3000 loose w :=
  PySem.W.byRow2 "special-get-raises" (P := fun w => HandSHeadRun.RunEq R (PySem.W.view R.prog [60]) hk ob 3000 loose w) (fun w => by intro os; kernel_rfl) (fun w => by intro os; kernel_rfl) w
/-- what the top has written, by names -/
structure Txt (w : World) (K : PySem.W.Frag) (mg : Str → Option Value) : Prop where
  f_reversed : mg "reversed" = none
  f_list : mg "list" = none
  f_tuple : mg "tuple" = none
  f_len : mg "len" = none
  f_abs : mg "abs" = none
  f_int : mg "int" = none
  f_range : mg "range" = none
  f_isinstance : mg "isinstance" = none
  f_repr : mg "repr" = none
  f_max : mg "max" = none
  f_min : mg "min" = none
  v_BOOL : ∃ u, mg "BOOL" = some u ∧ RelV (.ref (He.ga K "BOOL")) u
  v_TRUE : ∃ u, mg "TRUE" = some u ∧ RelV (.ref (He.ga K "TRUE")) u
  v_FALSE : ∃ u, mg "FALSE" = some u ∧ RelV (.ref (He.ga K "FALSE")) u
  v_LOGIC_KINDS : ∃ u, mg "LOGIC_KINDS" = some u ∧ RelV (.ref (He.ga K "LOGIC_KINDS")) u
  v_READ_AS : ∃ u, mg "_READ_AS" = some u ∧ RelV (.ref (He.ga K "_READ_AS")) u
  d_LOGIC_KINDS : HallHt.TxtD K w (He.ga K "LOGIC_KINDS") td_LOGIC_KINDS
  d_READ_AS : HallHt.TxtD K w (He.ga K "_READ_AS") td_READ_AS
  t_BOOL : ∀ H, SqT K H (He.ga K "BOOL") (tb_BOOL.map (He.Dv.v K))
  l_BOOL : ∀ H, @L2.TD ⟨K⟩ H (.ref (He.ga K "BOOL")) (.tuple [.str "named", .str "bool"])
  l_TRUE : ∀ H, @L2.TD ⟨K⟩ H (.ref (He.ga K "TRUE")) (.tuple [.str "const", .str "true", (.tuple [.str "named", .str "bool"])])
  l_FALSE : ∀ H, @L2.TD ⟨K⟩ H (.ref (He.ga K "FALSE")) (.tuple [.str "const", .str "false", (.tuple [.str "named", .str "bool"])])
  l_LOGIC_KINDS_0 : ∀ H, @L2.TD ⟨K⟩ H (.ref (L2.valA K (He.ga K "LOGIC_KINDS") "true")) (.tuple [.str "named", .str "bool"])
  l_LOGIC_KINDS_1 : ∀ H, @L2.TD ⟨K⟩ H (.ref (L2.valA K (He.ga K "LOGIC_KINDS") "false")) (.tuple [.str "named", .str "bool"])
  l_LOGIC_KINDS_2 : ∀ H, @L2.TD ⟨K⟩ H (.ref (L2.valA K (He.ga K "LOGIC_KINDS") "~")) (.tuple [.str "to", (.tuple [.str "named", .str "bool"]), (.tuple [.str "named", .str "bool"])])
  l_LOGIC_KINDS_3 : ∀ H, @L2.TD ⟨K⟩ H (.ref (L2.valA K (He.ga K "LOGIC_KINDS") "&")) (.tuple [.str "to", (.tuple [.str "named", .str "bool"]), (.tuple [.str "to", (.tuple [.str "named", .str "bool"]), (.tuple [.str "named", .str "bool"])])])
  l_LOGIC_KINDS_4 : ∀ H, @L2.TD ⟨K⟩ H (.ref (L2.valA K (He.ga K "LOGIC_KINDS") "|")) (.tuple [.str "to", (.tuple [.str "named", .str "bool"]), (.tuple [.str "to", (.tuple [.str "named", .str "bool"]), (.tuple [.str "named", .str "bool"])])])
  l_LOGIC_KINDS_5 : ∀ H, @L2.TD ⟨K⟩ H (.ref (L2.valA K (He.ga K "LOGIC_KINDS") "=>")) (.tuple [.str "to", (.tuple [.str "named", .str "bool"]), (.tuple [.str "to", (.tuple [.str "named", .str "bool"]), (.tuple [.str "named", .str "bool"])])])
  l_LOGIC_KINDS_6 : ∀ H, @L2.TD ⟨K⟩ H (.ref (L2.valA K (He.ga K "LOGIC_KINDS") "=")) (.tuple [.str "to", (.tuple [.str "free", .str "k"]), (.tuple [.str "to", (.tuple [.str "free", .str "k"]), (.tuple [.str "named", .str "bool"])])])
  l_LOGIC_KINDS_7 : ∀ H, @L2.TD ⟨K⟩ H (.ref (L2.valA K (He.ga K "LOGIC_KINDS") "all")) (.tuple [.str "to", (.tuple [.str "to", (.tuple [.str "free", .str "k"]), (.tuple [.str "named", .str "bool"])]), (.tuple [.str "named", .str "bool"])])
  l_LOGIC_KINDS_8 : ∀ H, @L2.TD ⟨K⟩ H (.ref (L2.valA K (He.ga K "LOGIC_KINDS") "some")) (.tuple [.str "to", (.tuple [.str "to", (.tuple [.str "free", .str "k"]), (.tuple [.str "named", .str "bool"])]), (.tuple [.str "named", .str "bool"])])
  l_READ_AS_0 : ∀ H, @L2.TD ⟨K⟩ H (.ref (L2.valA K (He.ga K "_READ_AS") "true")) (.tuple [.str "true", .int 0])
  l_READ_AS_1 : ∀ H, @L2.TD ⟨K⟩ H (.ref (L2.valA K (He.ga K "_READ_AS") "false")) (.tuple [.str "false", .int 0])
  l_READ_AS_2 : ∀ H, @L2.TD ⟨K⟩ H (.ref (L2.valA K (He.ga K "_READ_AS") "~")) (.tuple [.str "not", .int 1])
  l_READ_AS_3 : ∀ H, @L2.TD ⟨K⟩ H (.ref (L2.valA K (He.ga K "_READ_AS") "&")) (.tuple [.str "and", .int 2])
  l_READ_AS_4 : ∀ H, @L2.TD ⟨K⟩ H (.ref (L2.valA K (He.ga K "_READ_AS") "|")) (.tuple [.str "or", .int 2])
  l_READ_AS_5 : ∀ H, @L2.TD ⟨K⟩ H (.ref (L2.valA K (He.ga K "_READ_AS") "=>")) (.tuple [.str "implies", .int 2])
  l_READ_AS_6 : ∀ H, @L2.TD ⟨K⟩ H (.ref (L2.valA K (He.ga K "_READ_AS") "=")) (.tuple [.str "equal", .int 2])
  l_READ_AS_7 : ∀ H, @L2.TD ⟨K⟩ H (.ref (L2.valA K (He.ga K "_READ_AS") "all")) (.tuple [.str "all", .int 1])
  l_READ_AS_8 : ∀ H, @L2.TD ⟨K⟩ H (.ref (L2.valA K (He.ga K "_READ_AS") "some")) (.tuple [.str "some", .int 1])
theorem exl_at {K : PySem.W.Frag} (h : ex K = true) (i : Nat) {b : Bool} (e : (exl K)[i]? = some b) : b = true := by
  have z := List.all_eq_true.mp h b (List.mem_of_getElem? e)
  exact z
theorem txt_of {w : World} {K : PySem.W.Frag} {h : Heap} {mg : Str → Option Value} (X : K.In h) (G : h.Ns mainGlobals mg) (c : HallHt.SaysH fa fn hs ex ts w K) : Txt w K mg where
  f_reversed := He.free_ok X G (c.d.fact 52 (f := .free "reversed") rfl)
  f_list := He.free_ok X G (c.d.fact 53 (f := .free "list") rfl)
  f_tuple := He.free_ok X G (c.d.fact 54 (f := .free "tuple") rfl)
  f_len := He.free_ok X G (c.d.fact 55 (f := .free "len") rfl)
  f_abs := He.free_ok X G (c.d.fact 56 (f := .free "abs") rfl)
  f_int := He.free_ok X G (c.d.fact 57 (f := .free "int") rfl)
  f_range := He.free_ok X G (c.d.fact 58 (f := .free "range") rfl)
  f_isinstance := He.free_ok X G (c.d.fact 59 (f := .free "isinstance") rfl)
  f_repr := He.free_ok X G (c.d.fact 60 (f := .free "repr") rfl)
  f_max := He.free_ok X G (c.d.fact 61 (f := .free "max") rfl)
  f_min := He.free_ok X G (c.d.fact 62 (f := .free "min") rfl)
  v_BOOL := ⟨_, He.glo_ok X G (c.d.fact 63 (f := .glo "BOOL") rfl), rfl⟩
  v_TRUE := ⟨_, He.glo_ok X G (c.d.fact 64 (f := .glo "TRUE") rfl), rfl⟩
  v_FALSE := ⟨_, He.glo_ok X G (c.d.fact 65 (f := .glo "FALSE") rfl), rfl⟩
  v_LOGIC_KINDS := ⟨_, He.glo_ok X G (c.d.fact 66 (f := .glo "LOGIC_KINDS") rfl), rfl⟩
  v_READ_AS := ⟨_, He.glo_ok X G (c.d.fact 67 (f := .glo "_READ_AS") rfl), rfl⟩
  d_LOGIC_KINDS := HallHt.txtD_of (c.tab 0 rfl) (exl_at c.more 0 rfl)
  d_READ_AS := HallHt.txtD_of (c.tab 1 rfl) (exl_at c.more 1 rfl)
  t_BOOL := fun H => He.tupB_ok (exl_at c.more 2 rfl) H
  l_BOOL := fun H => L2.lit_ref (exl_at c.more 3 rfl) H
  l_TRUE := fun H => L2.lit_ref (exl_at c.more 4 rfl) H
  l_FALSE := fun H => L2.lit_ref (exl_at c.more 5 rfl) H
  l_LOGIC_KINDS_0 := fun H => L2.lit_ref (exl_at c.more 6 rfl) H
  l_LOGIC_KINDS_1 := fun H => L2.lit_ref (exl_at c.more 7 rfl) H
  l_LOGIC_KINDS_2 := fun H => L2.lit_ref (exl_at c.more 8 rfl) H
  l_LOGIC_KINDS_3 := fun H => L2.lit_ref (exl_at c.more 9 rfl) H
  l_LOGIC_KINDS_4 := fun H => L2.lit_ref (exl_at c.more 10 rfl) H
  l_LOGIC_KINDS_5 := fun H => L2.lit_ref (exl_at c.more 11 rfl) H
  l_LOGIC_KINDS_6 := fun H => L2.lit_ref (exl_at c.more 12 rfl) H
  l_LOGIC_KINDS_7 := fun H => L2.lit_ref (exl_at c.more 13 rfl) H
  l_LOGIC_KINDS_8 := fun H => L2.lit_ref (exl_at c.more 14 rfl) H
  l_READ_AS_0 := fun H => L2.lit_ref (exl_at c.more 15 rfl) H
  l_READ_AS_1 := fun H => L2.lit_ref (exl_at c.more 16 rfl) H
  l_READ_AS_2 := fun H => L2.lit_ref (exl_at c.more 17 rfl) H
  l_READ_AS_3 := fun H => L2.lit_ref (exl_at c.more 18 rfl) H
  l_READ_AS_4 := fun H => L2.lit_ref (exl_at c.more 19 rfl) H
  l_READ_AS_5 := fun H => L2.lit_ref (exl_at c.more 20 rfl) H
  l_READ_AS_6 := fun H => L2.lit_ref (exl_at c.more 21 rfl) H
  l_READ_AS_7 := fun H => L2.lit_ref (exl_at c.more 22 rfl) H
  l_READ_AS_8 := fun H => L2.lit_ref (exl_at c.more 23 rfl) H
abbrev Fn_fun_kind (K : PySem.W.Frag) (fd : FuncData) : Prop := FunD K "fun_kind" "fun_kind" (defArgs s_fun_kind) (defBody s_fun_kind) (defScope s_fun_kind) [] [] (He.ga K "fun_kind") fd
abbrev Fn_match_kind (K : PySem.W.Frag) (fd : FuncData) : Prop := FunD K "match_kind" "match_kind" (defArgs s_match_kind) (defBody s_match_kind) (defScope s_match_kind) [] [] (He.ga K "match_kind") fd
abbrev Fn_const (K : PySem.W.Frag) (fd : FuncData) : Prop := FunD K "const" "const" (defArgs s_const) (defBody s_const) (defScope s_const) [] [] (He.ga K "const") fd
abbrev Fn_app (K : PySem.W.Frag) (fd : FuncData) : Prop := FunD K "app" "app" (defArgs s_app) (defBody s_app) (defScope s_app) [] [] (He.ga K "app") fd
abbrev Fn_lam (K : PySem.W.Frag) (fd : FuncData) : Prop := FunD K "lam" "lam" (defArgs s_lam) (defBody s_lam) (defScope s_lam) [] [] (He.ga K "lam") fd
abbrev Fn_kind_within (K : PySem.W.Frag) (fd : FuncData) : Prop := FunD K "kind_within" "kind_within" (defArgs s_kind_within) (defBody s_kind_within) (defScope s_kind_within) [] [] (He.ga K "kind_within") fd
abbrev Fn_abstracted (K : PySem.W.Frag) (fd : FuncData) : Prop := FunD K "_abstracted" "_abstracted" (defArgs s_abstracted) (defBody s_abstracted) (defScope s_abstracted) [] [] (He.ga K "_abstracted") fd
abbrev Fn_abstract (K : PySem.W.Frag) (fd : FuncData) : Prop := FunD K "abstract" "abstract" (defArgs s_abstract) (defBody s_abstract) (defScope s_abstract) [] [] (He.ga K "abstract") fd
abbrev Fn_child (K : PySem.W.Frag) (fd : FuncData) : Prop := FunD K "_child" "_child" (defArgs s_child) (defBody s_child) (defScope s_child) [] [] (He.ga K "_child") fd
abbrev Fn_part_at (K : PySem.W.Frag) (fd : FuncData) : Prop := FunD K "part_at" "part_at" (defArgs s_part_at) (defBody s_part_at) (defScope s_part_at) [] [] (He.ga K "part_at") fd
abbrev Fn_places (K : PySem.W.Frag) (fd : FuncData) : Prop := FunD K "places" "places" (defArgs s_places) (defBody s_places) (defScope s_places) [] [] (He.ga K "places") fd
abbrev Fn_equation (K : PySem.W.Frag) (fd : FuncData) : Prop := FunD K "equation" "equation" (defArgs s_equation) (defBody s_equation) (defScope s_equation) [] [] (He.ga K "equation") fd
abbrev Fn_negation (K : PySem.W.Frag) (fd : FuncData) : Prop := FunD K "negation" "negation" (defArgs s_negation) (defBody s_negation) (defScope s_negation) [] [] (He.ga K "negation") fd
abbrev Fn_nested (K : PySem.W.Frag) (fd : FuncData) : Prop := FunD K "_nested" "_nested" (defArgs s_nested) (defBody s_nested) (defScope s_nested) [] [] (He.ga K "_nested") fd
abbrev Fn_conjunction (K : PySem.W.Frag) (fd : FuncData) : Prop := FunD K "conjunction" "conjunction" (defArgs s_conjunction) (defBody s_conjunction) (defScope s_conjunction) [] [] (He.ga K "conjunction") fd
abbrev Fn_disjunction (K : PySem.W.Frag) (fd : FuncData) : Prop := FunD K "disjunction" "disjunction" (defArgs s_disjunction) (defBody s_disjunction) (defScope s_disjunction) [] [] (He.ga K "disjunction") fd
abbrev Fn_implication (K : PySem.W.Frag) (fd : FuncData) : Prop := FunD K "implication" "implication" (defArgs s_implication) (defBody s_implication) (defScope s_implication) [] [] (He.ga K "implication") fd
abbrev Fn_quantified (K : PySem.W.Frag) (fd : FuncData) : Prop := FunD K "_quantified" "_quantified" (defArgs s_quantified) (defBody s_quantified) (defScope s_quantified) [] [] (He.ga K "_quantified") fd
abbrev Fn_for_all (K : PySem.W.Frag) (fd : FuncData) : Prop := FunD K "for_all" "for_all" (defArgs s_for_all) (defBody s_for_all) (defScope s_for_all) [] [] (He.ga K "for_all") fd
abbrev Fn_for_some (K : PySem.W.Frag) (fd : FuncData) : Prop := FunD K "for_some" "for_some" (defArgs s_for_some) (defBody s_for_some) (defScope s_for_some) [] [] (He.ga K "for_some") fd
abbrev Fn_spine (K : PySem.W.Frag) (fd : FuncData) : Prop := FunD K "spine" "spine" (defArgs s_spine) (defBody s_spine) (defScope s_spine) [] [] (He.ga K "spine") fd
abbrev Fn_read_formula (K : PySem.W.Frag) (fd : FuncData) : Prop := FunD K "read_formula" "read_formula" (defArgs s_read_formula) (defBody s_read_formula) (defScope s_read_formula) [] [] (He.ga K "read_formula") fd
abbrev Fn_law_pot (K : PySem.W.Frag) (fd : FuncData) : Prop := FunD K "_law_pot" "_law_pot" (defArgs s_law_pot) (defBody s_law_pot) (defScope s_law_pot) [] [] (He.ga K "_law_pot") fd
abbrev Fn_law_take (K : PySem.W.Frag) (fd : FuncData) : Prop := FunD K "_law_take" "_law_take" (defArgs s_law_take) (defBody s_law_take) (defScope s_law_take) [] [] (He.ga K "_law_take") fd
abbrev Fn_law_mended (K : PySem.W.Frag) (fd : FuncData) : Prop := FunD K "_law_mended" "_law_mended" (defArgs s_law_mended) (defBody s_law_mended) (defScope s_law_mended) [] [] (He.ga K "_law_mended") fd
abbrev Fn_law_name (K : PySem.W.Frag) (fd : FuncData) : Prop := FunD K "_law_name" "_law_name" (defArgs s_law_name) (defBody s_law_name) (defScope s_law_name) [] [] (He.ga K "_law_name") fd
abbrev Fn_law_near (K : PySem.W.Frag) (fd : FuncData) : Prop := FunD K "_law_near" "_law_near" (defArgs s_law_near) (defBody s_law_near) (defScope s_law_near) [] [] (He.ga K "_law_near") fd
abbrev Fn_law_words (K : PySem.W.Frag) (fd : FuncData) : Prop := FunD K "_law_words" "_law_words" (defArgs s_law_words) (defBody s_law_words) (defScope s_law_words) [] [] (He.ga K "_law_words") fd
abbrev Fn_law_same (K : PySem.W.Frag) (fd : FuncData) : Prop := FunD K "_law_same" "_law_same" (defArgs s_law_same) (defBody s_law_same) (defScope s_law_same) [] [] (He.ga K "_law_same") fd
abbrev Fn_law_pool (K : PySem.W.Frag) (fd : FuncData) : Prop := FunD K "_law_pool" "_law_pool" (defArgs s_law_pool) (defBody s_law_pool) (defScope s_law_pool) [] [] (He.ga K "_law_pool") fd
abbrev Fn_law_signs (K : PySem.W.Frag) (fd : FuncData) : Prop := FunD K "_law_signs" "_law_signs" (defArgs s_law_signs) (defBody s_law_signs) (defScope s_law_signs) [] [] (He.ga K "_law_signs") fd
abbrev Fn_law_tip (K : PySem.W.Frag) (fd : FuncData) : Prop := FunD K "_law_tip" "_law_tip" (defArgs s_law_tip) (defBody s_law_tip) (defScope s_law_tip) [] [] (He.ga K "_law_tip") fd
abbrev Fn_law_grow_formula (K : PySem.W.Frag) (fd : FuncData) : Prop := FunD K "_law_grow_formula" "_law_grow_formula" (defArgs s_law_grow_formula) (defBody s_law_grow_formula) (defScope s_law_grow_formula) [] [] (He.ga K "_law_grow_formula") fd
abbrev Fn_law_grown (K : PySem.W.Frag) (fd : FuncData) : Prop := FunD K "_law_grown" "_law_grown" (defArgs s_law_grown) (defBody s_law_grown) (defScope s_law_grown) [] [] (He.ga K "_law_grown") fd
abbrev Fn_law_levels (K : PySem.W.Frag) (fd : FuncData) : Prop := FunD K "_law_levels" "_law_levels" (defArgs s_law_levels) (defBody s_law_levels) (defScope s_law_levels) [] [] (He.ga K "_law_levels") fd
abbrev Fn_law_abstracted (K : PySem.W.Frag) (fd : FuncData) : Prop := FunD K "_law_abstracted" "_law_abstracted" (defArgs s_law_abstracted) (defBody s_law_abstracted) (defScope s_law_abstracted) [] [] (He.ga K "_law_abstracted") fd
abbrev Fn_law_extents (K : PySem.W.Frag) (fd : FuncData) : Prop := FunD K "_law_extents" "_law_extents" (defArgs s_law_extents) (defBody s_law_extents) (defScope s_law_extents) [] [] (He.ga K "_law_extents") fd
abbrev Fn_law_parts (K : PySem.W.Frag) (fd : FuncData) : Prop := FunD K "_law_parts" "_law_parts" (defArgs s_law_parts) (defBody s_law_parts) (defScope s_law_parts) [] [] (He.ga K "_law_parts") fd
abbrev Fn_law_built (K : PySem.W.Frag) (fd : FuncData) : Prop := FunD K "_law_built" "_law_built" (defArgs s_law_built) (defBody s_law_built) (defScope s_law_built) [] [] (He.ga K "_law_built") fd
abbrev Fn_law_spots (K : PySem.W.Frag) (fd : FuncData) : Prop := FunD K "_law_spots" "_law_spots" (defArgs s_law_spots) (defBody s_law_spots) (defScope s_law_spots) [] [] (He.ga K "_law_spots") fd
abbrev Fn_law_read (K : PySem.W.Frag) (fd : FuncData) : Prop := FunD K "_law_read" "_law_read" (defArgs s_law_read) (defBody s_law_read) (defScope s_law_read) [] [] (He.ga K "_law_read") fd
abbrev Fn_law_spine (K : PySem.W.Frag) (fd : FuncData) : Prop := FunD K "_law_spine" "_law_spine" (defArgs s_law_spine) (defBody s_law_spine) (defScope s_law_spine) [] [] (He.ga K "_law_spine") fd
abbrev Fn_law_ask_places (K : PySem.W.Frag) (fd : FuncData) : Prop := FunD K "_law_ask_places" "_law_ask_places" (defArgs s_law_ask_places) (defBody s_law_ask_places) (defScope s_law_ask_places) [] [] (He.ga K "_law_ask_places") fd
abbrev Fn_law_ask_reading (K : PySem.W.Frag) (fd : FuncData) : Prop := FunD K "_law_ask_reading" "_law_ask_reading" (defArgs s_law_ask_reading) (defBody s_law_ask_reading) (defScope s_law_ask_reading) [] [] (He.ga K "_law_ask_reading") fd
abbrev Fn_law_conjunction (K : PySem.W.Frag) (fd : FuncData) : Prop := FunD K "_law_conjunction" "_law_conjunction" (defArgs s_law_conjunction) (defBody s_law_conjunction) (defScope s_law_conjunction) [] [] (He.ga K "_law_conjunction") fd
abbrev Fn_law_disjunction (K : PySem.W.Frag) (fd : FuncData) : Prop := FunD K "_law_disjunction" "_law_disjunction" (defArgs s_law_disjunction) (defBody s_law_disjunction) (defScope s_law_disjunction) [] [] (He.ga K "_law_disjunction") fd
abbrev Fn_law_implication (K : PySem.W.Frag) (fd : FuncData) : Prop := FunD K "_law_implication" "_law_implication" (defArgs s_law_implication) (defBody s_law_implication) (defScope s_law_implication) [] [] (He.ga K "_law_implication") fd
abbrev Fn_law_nested (K : PySem.W.Frag) (fd : FuncData) : Prop := FunD K "_law_nested" "_law_nested" (defArgs s_law_nested) (defBody s_law_nested) (defScope s_law_nested) [] [] (He.ga K "_law_nested") fd
abbrev Fn_law_ask_joined (K : PySem.W.Frag) (fd : FuncData) : Prop := FunD K "_law_ask_joined" "_law_ask_joined" (defArgs s_law_ask_joined) (defBody s_law_ask_joined) (defScope s_law_ask_joined) [] [] (He.ga K "_law_ask_joined") fd
abbrev Fn_law_ask_equation (K : PySem.W.Frag) (fd : FuncData) : Prop := FunD K "_law_ask_equation" "_law_ask_equation" (defArgs s_law_ask_equation) (defBody s_law_ask_equation) (defScope s_law_ask_equation) [] [] (He.ga K "_law_ask_equation") fd
abbrev Fn_law_ask_quantified (K : PySem.W.Frag) (fd : FuncData) : Prop := FunD K "_law_ask_quantified" "_law_ask_quantified" (defArgs s_law_ask_quantified) (defBody s_law_ask_quantified) (defScope s_law_ask_quantified) [] [] (He.ga K "_law_ask_quantified") fd
abbrev Fn_law (K : PySem.W.Frag) (fd : FuncData) : Prop := FunD K "law" "law" (defArgs s_law) (defBody s_law) (defScope s_law) [] [] (He.ga K "law") fd
theorem sc_fun_kind : FnScope ["kinds", "result", "argument"] [] (defScope s_fun_kind) := ⟨rfl, rfl, rfl, by decide +kernel, rfl, by decide +kernel, by decide +kernel⟩
theorem sc_match_kind : FnScope ["pattern", "kind", "table", "waiting", "wanted", "found"] ["pattern", "kind"] (defScope s_match_kind) := ⟨rfl, rfl, rfl, by decide +kernel, rfl, by decide +kernel, by decide +kernel⟩
theorem b_match_kind {K : PySem.W.Frag} {fd : FuncData} (F : Fn_match_kind K fd) : Binds K fd ["pattern", "kind"] [] := F.bindsN fun _ _ _ _ _ _ us hl => match us, hl with | [_, _], _ => rfl
theorem sc_const : FnScope ["name", "kind"] ["name", "kind"] (defScope s_const) := ⟨rfl, rfl, rfl, by decide +kernel, rfl, by decide +kernel, by decide +kernel⟩
theorem b_const {K : PySem.W.Frag} {fd : FuncData} (F : Fn_const K fd) : Binds K fd ["name", "kind"] [] := F.bindsN fun _ _ _ _ _ _ us hl => match us, hl with | [_, _], _ => rfl
theorem sc_app : FnScope ["function", "arguments", "term", "argument"] ["function"] (defScope s_app) := ⟨rfl, rfl, rfl, by decide +kernel, rfl, by decide +kernel, by decide +kernel⟩
theorem sc_lam : FnScope ["name", "kind", "body"] ["name", "kind", "body"] (defScope s_lam) := ⟨rfl, rfl, rfl, by decide +kernel, rfl, by decide +kernel, by decide +kernel⟩
theorem b_lam {K : PySem.W.Frag} {fd : FuncData} (F : Fn_lam K fd) : Binds K fd ["name", "kind", "body"] [] := F.bindsN fun _ _ _ _ _ _ us hl => match us, hl with | [_, _, _], _ => rfl
theorem sc_kind_within : FnScope ["part", "around"] ["part", "around"] (defScope s_kind_within) := ⟨rfl, rfl, rfl, by decide +kernel, rfl, by decide +kernel, by decide +kernel⟩
theorem b_kind_within {K : PySem.W.Frag} {fd : FuncData} (F : Fn_kind_within K fd) : Binds K fd ["part", "around"] [] := F.bindsN fun _ _ _ _ _ _ us hl => match us, hl with | [_, _], _ => rfl
theorem sc_abstracted : FnScope ["part", "variable", "level"] ["part", "variable", "level"] (defScope s_abstracted) := ⟨rfl, rfl, rfl, by decide +kernel, rfl, by decide +kernel, by decide +kernel⟩
theorem b_abstracted {K : PySem.W.Frag} {fd : FuncData} (F : Fn_abstracted K fd) : Binds K fd ["part", "variable", "level"] [] := F.bindsN fun _ _ _ _ _ _ us hl => match us, hl with | [_, _, _], _ => rfl
theorem sc_abstract : FnScope ["term", "name", "kind"] ["term", "name", "kind"] (defScope s_abstract) := ⟨rfl, rfl, rfl, by decide +kernel, rfl, by decide +kernel, by decide +kernel⟩
theorem b_abstract {K : PySem.W.Frag} {fd : FuncData} (F : Fn_abstract K fd) : Binds K fd ["term", "name", "kind"] [] := F.bindsN fun _ _ _ _ _ _ us hl => match us, hl with | [_, _, _], _ => rfl
theorem sc_child : FnScope ["part", "step"] ["part", "step"] (defScope s_child) := ⟨rfl, rfl, rfl, by decide +kernel, rfl, by decide +kernel, by decide +kernel⟩
theorem b_child {K : PySem.W.Frag} {fd : FuncData} (F : Fn_child K fd) : Binds K fd ["part", "step"] [] := F.bindsN fun _ _ _ _ _ _ us hl => match us, hl with | [_, _], _ => rfl
theorem sc_part_at : FnScope ["term", "place", "part", "step"] ["term", "place"] (defScope s_part_at) := ⟨rfl, rfl, rfl, by decide +kernel, rfl, by decide +kernel, by decide +kernel⟩
theorem b_part_at {K : PySem.W.Frag} {fd : FuncData} (F : Fn_part_at K fd) : Binds K fd ["term", "place"] [] := F.bindsN fun _ _ _ _ _ _ us hl => match us, hl with | [_, _], _ => rfl
theorem sc_equation : FnScope ["left", "right", "kind"] ["left", "right"] (defScope s_equation) := ⟨rfl, rfl, rfl, by decide +kernel, rfl, by decide +kernel, by decide +kernel⟩
theorem b_equation {K : PySem.W.Frag} {fd : FuncData} (F : Fn_equation K fd) : Binds K fd ["left", "right"] [] := F.bindsN fun _ _ _ _ _ _ us hl => match us, hl with | [_, _], _ => rfl
theorem sc_negation : FnScope ["p"] ["p"] (defScope s_negation) := ⟨rfl, rfl, rfl, by decide +kernel, rfl, by decide +kernel, by decide +kernel⟩
theorem b_negation {K : PySem.W.Frag} {fd : FuncData} (F : Fn_negation K fd) : Binds K fd ["p"] [] := F.bindsN fun _ _ _ _ _ _ us hl => match us, hl with | [_], _ => rfl
theorem sc_nested : FnScope ["sign", "formulas", "joint", "result", "formula"] ["sign", "formulas"] (defScope s_nested) := ⟨rfl, rfl, rfl, by decide +kernel, rfl, by decide +kernel, by decide +kernel⟩
theorem b_nested {K : PySem.W.Frag} {fd : FuncData} (F : Fn_nested K fd) : Binds K fd ["sign", "formulas"] [] := F.bindsN fun _ _ _ _ _ _ us hl => match us, hl with | [_, _], _ => rfl
theorem sc_conjunction : FnScope ["formulas"] [] (defScope s_conjunction) := ⟨rfl, rfl, rfl, by decide +kernel, rfl, by decide +kernel, by decide +kernel⟩
theorem sc_disjunction : FnScope ["formulas"] [] (defScope s_disjunction) := ⟨rfl, rfl, rfl, by decide +kernel, rfl, by decide +kernel, by decide +kernel⟩
theorem sc_implication : FnScope ["formulas"] [] (defScope s_implication) := ⟨rfl, rfl, rfl, by decide +kernel, rfl, by decide +kernel, by decide +kernel⟩
theorem sc_quantified : FnScope ["word", "name", "kind", "p", "binder"] ["word", "name", "kind", "p"] (defScope s_quantified) := ⟨rfl, rfl, rfl, by decide +kernel, rfl, by decide +kernel, by decide +kernel⟩
theorem b_quantified {K : PySem.W.Frag} {fd : FuncData} (F : Fn_quantified K fd) : Binds K fd ["word", "name", "kind", "p"] [] := F.bindsN fun _ _ _ _ _ _ us hl => match us, hl with | [_, _, _, _], _ => rfl
theorem sc_for_all : FnScope ["name", "kind", "p"] ["name", "kind", "p"] (defScope s_for_all) := ⟨rfl, rfl, rfl, by decide +kernel, rfl, by decide +kernel, by decide +kernel⟩
theorem b_for_all {K : PySem.W.Frag} {fd : FuncData} (F : Fn_for_all K fd) : Binds K fd ["name", "kind", "p"] [] := F.bindsN fun _ _ _ _ _ _ us hl => match us, hl with | [_, _, _], _ => rfl
theorem sc_for_some : FnScope ["name", "kind", "p"] ["name", "kind", "p"] (defScope s_for_some) := ⟨rfl, rfl, rfl, by decide +kernel, rfl, by decide +kernel, by decide +kernel⟩
theorem b_for_some {K : PySem.W.Frag} {fd : FuncData} (F : Fn_for_some K fd) : Binds K fd ["name", "kind", "p"] [] := F.bindsN fun _ _ _ _ _ _ us hl => match us, hl with | [_, _, _], _ => rfl
theorem sc_spine : FnScope ["term", "arguments", "head"] ["term"] (defScope s_spine) := ⟨rfl, rfl, rfl, by decide +kernel, rfl, by decide +kernel, by decide +kernel⟩
theorem b_spine {K : PySem.W.Frag} {fd : FuncData} (F : Fn_spine K fd) : Binds K fd ["term"] [] := F.bindsN fun _ _ _ _ _ _ us hl => match us, hl with | [_], _ => rfl
theorem sc_read_formula : FnScope ["term", "head", "arguments", "word", "many", "fits"] ["term"] (defScope s_read_formula) := ⟨rfl, rfl, rfl, by decide +kernel, rfl, by decide +kernel, by decide +kernel⟩
theorem b_read_formula {K : PySem.W.Frag} {fd : FuncData} (F : Fn_read_formula K fd) : Binds K fd ["term"] [] := F.bindsN fun _ _ _ _ _ _ us hl => match us, hl with | [_], _ => rfl
theorem sc_law_pot : FnScope ["script", "k", "cell", "rest"] ["script", "k"] (defScope s_law_pot) := ⟨rfl, rfl, rfl, by decide +kernel, rfl, by decide +kernel, by decide +kernel⟩
theorem b_law_pot {K : PySem.W.Frag} {fd : FuncData} (F : Fn_law_pot K fd) : Binds K fd ["script", "k"] [] := F.bindsN fun _ _ _ _ _ _ us hl => match us, hl with | [_, _], _ => rfl
theorem sc_law_take : FnScope ["pot", "many", "digit", "mixed"] ["pot", "many"] (defScope s_law_take) := ⟨rfl, rfl, rfl, by decide +kernel, rfl, by decide +kernel, by decide +kernel⟩
theorem b_law_take {K : PySem.W.Frag} {fd : FuncData} (F : Fn_law_take K fd) : Binds K fd ["pot", "many"] [] := F.bindsN fun _ _ _ _ _ _ us hl => match us, hl with | [_, _], _ => rfl
theorem sc_law_mended : FnScope ["word"] ["word"] (defScope s_law_mended) := ⟨rfl, rfl, rfl, by decide +kernel, rfl, by decide +kernel, by decide +kernel⟩
theorem b_law_mended {K : PySem.W.Frag} {fd : FuncData} (F : Fn_law_mended K fd) : Binds K fd ["word"] [] := F.bindsN fun _ _ _ _ _ _ us hl => match us, hl with | [_], _ => rfl
theorem sc_law_name : FnScope ["pot", "letters", "size", "word", "k"] ["pot"] (defScope s_law_name) := ⟨rfl, rfl, rfl, by decide +kernel, rfl, by decide +kernel, by decide +kernel⟩
theorem b_law_name {K : PySem.W.Frag} {fd : FuncData} (F : Fn_law_name K fd) : Binds K fd ["pot"] [] := F.bindsN fun _ _ _ _ _ _ us hl => match us, hl with | [_], _ => rfl
theorem sc_law_near : FnScope ["pot", "word", "place", "letter"] ["pot", "word"] (defScope s_law_near) := ⟨rfl, rfl, rfl, by decide +kernel, rfl, by decide +kernel, by decide +kernel⟩
theorem b_law_near {K : PySem.W.Frag} {fd : FuncData} (F : Fn_law_near K fd) : Binds K fd ["pot", "word"] [] := F.bindsN fun _ _ _ _ _ _ us hl => match us, hl with | [_, _], _ => rfl
theorem sc_law_words : FnScope ["pot", "first", "second", "third", "fourth"] ["pot"] (defScope s_law_words) := ⟨rfl, rfl, rfl, by decide +kernel, rfl, by decide +kernel, by decide +kernel⟩
theorem b_law_words {K : PySem.W.Frag} {fd : FuncData} (F : Fn_law_words K fd) : Binds K fd ["pot"] [] := F.bindsN fun _ _ _ _ _ _ us hl => match us, hl with | [_], _ => rfl
theorem sc_law_same : FnScope ["actual", "due"] ["actual", "due"] (defScope s_law_same) := ⟨rfl, rfl, rfl, by decide +kernel, rfl, by decide +kernel, by decide +kernel⟩
theorem b_law_same {K : PySem.W.Frag} {fd : FuncData} (F : Fn_law_same K fd) : Binds K fd ["actual", "due"] [] := F.bindsN fun _ _ _ _ _ _ us hl => match us, hl with | [_, _], _ => rfl
theorem sc_law_pool : FnScope ["pot", "words", "leaves", "pool", "k", "one", "other", "way"] ["pot", "words"] (defScope s_law_pool) := ⟨rfl, rfl, rfl, by decide +kernel, rfl, by decide +kernel, by decide +kernel⟩
theorem b_law_pool {K : PySem.W.Frag} {fd : FuncData} (F : Fn_law_pool K fd) : Binds K fd ["pot", "words"] [] := F.bindsN fun _ _ _ _ _ _ us hl => match us, hl with | [_, _], _ => rfl
theorem sc_law_signs : FnScope ["kind", "truth", "known"] ["kind"] (defScope s_law_signs) := ⟨rfl, rfl, rfl, by decide +kernel, rfl, by decide +kernel, by decide +kernel⟩
theorem b_law_signs {K : PySem.W.Frag} {fd : FuncData} (F : Fn_law_signs K fd) : Binds K fd ["kind"] [] := F.bindsN fun _ _ _ _ _ _ us hl => match us, hl with | [_], _ => rfl
theorem sc_law_tip : FnScope ["pot", "kind", "around", "words", "fits", "way", "known", "k"] ["pot", "kind", "around", "words"] (defScope s_law_tip) := ⟨rfl, rfl, rfl, by decide +kernel, rfl, by decide +kernel, by decide +kernel⟩
theorem b_law_tip {K : PySem.W.Frag} {fd : FuncData} (F : Fn_law_tip K fd) : Binds K fd ["pot", "kind", "around", "words"] [] := F.bindsN fun _ _ _ _ _ _ us hl => match us, hl with | [_, _, _, _], _ => rfl
theorem sc_law_grow_formula : FnScope ["pot", "pool", "around", "code", "todo", "truth", "two", "pick", "other", "word"] ["pot", "pool", "around", "code", "todo"] (defScope s_law_grow_formula) := ⟨rfl, rfl, rfl, by decide +kernel, rfl, by decide +kernel, by decide +kernel⟩
theorem b_law_grow_formula {K : PySem.W.Frag} {fd : FuncData} (F : Fn_law_grow_formula K fd) : Binds K fd ["pot", "pool", "around", "code", "todo"] [] := F.bindsN fun _ _ _ _ _ _ us hl => match us, hl with | [_, _, _, _, _], _ => rfl
theorem sc_law_grown : FnScope ["pot", "kind", "words", "pool", "most", "code", "spent", "truth", "todo", "turn", "around", "way", "other"] ["pot", "kind", "words", "pool", "most"] (defScope s_law_grown) := ⟨rfl, rfl, rfl, by decide +kernel, rfl, by decide +kernel, by decide +kernel⟩
theorem b_law_grown {K : PySem.W.Frag} {fd : FuncData} (F : Fn_law_grown K fd) : Binds K fd ["pot", "kind", "words", "pool", "most"] [] := F.bindsN fun _ _ _ _ _ _ us hl => match us, hl with | [_, _, _, _, _], _ => rfl
theorem sc_law_levels : FnScope ["code", "todo", "levels", "row", "level"] ["code"] (defScope s_law_levels) := ⟨rfl, rfl, rfl, by decide +kernel, rfl, by decide +kernel, by decide +kernel⟩
theorem b_law_levels {K : PySem.W.Frag} {fd : FuncData} (F : Fn_law_levels K fd) : Binds K fd ["code"] [] := F.bindsN fun _ _ _ _ _ _ us hl => match us, hl with | [_], _ => rfl
theorem sc_law_abstracted : FnScope ["code", "word", "kind", "levels", "made", "k"] ["code", "word", "kind"] (defScope s_law_abstracted) := ⟨rfl, rfl, rfl, by decide +kernel, rfl, by decide +kernel, by decide +kernel⟩
theorem b_law_abstracted {K : PySem.W.Frag} {fd : FuncData} (F : Fn_law_abstracted K fd) : Binds K fd ["code", "word", "kind"] [] := F.bindsN fun _ _ _ _ _ _ us hl => match us, hl with | [_, _, _], _ => rfl
theorem sc_law_extents : FnScope ["code", "extents", "k", "first", "row"] ["code"] (defScope s_law_extents) := ⟨rfl, rfl, rfl, by decide +kernel, rfl, by decide +kernel, by decide +kernel⟩
theorem b_law_extents {K : PySem.W.Frag} {fd : FuncData} (F : Fn_law_extents K fd) : Binds K fd ["code"] [] := F.bindsN fun _ _ _ _ _ _ us hl => match us, hl with | [_], _ => rfl
theorem sc_law_parts : FnScope ["code", "extents", "parts", "k"] ["code", "extents"] (defScope s_law_parts) := ⟨rfl, rfl, rfl, by decide +kernel, rfl, by decide +kernel, by decide +kernel⟩
theorem b_law_parts {K : PySem.W.Frag} {fd : FuncData} (F : Fn_law_parts K fd) : Binds K fd ["code", "extents"] [] := F.bindsN fun _ _ _ _ _ _ us hl => match us, hl with | [_, _], _ => rfl
theorem sc_law_built : FnScope ["code"] ["code"] (defScope s_law_built) := ⟨rfl, rfl, rfl, by decide +kernel, rfl, by decide +kernel, by decide +kernel⟩
theorem b_law_built {K : PySem.W.Frag} {fd : FuncData} (F : Fn_law_built K fd) : Binds K fd ["code"] [] := F.bindsN fun _ _ _ _ _ _ us hl => match us, hl with | [_], _ => rfl
theorem sc_law_spots : FnScope ["code", "todo", "spots", "row", "place"] ["code"] (defScope s_law_spots) := ⟨rfl, rfl, rfl, by decide +kernel, rfl, by decide +kernel, by decide +kernel⟩
theorem b_law_spots {K : PySem.W.Frag} {fd : FuncData} (F : Fn_law_spots K fd) : Binds K fd ["code"] [] := F.bindsN fun _ _ _ _ _ _ us hl => match us, hl with | [_], _ => rfl
theorem sc_law_read : FnScope ["code", "extents", "parts", "k", "head", "sign", "first", "other"] ["code", "extents", "parts", "k"] (defScope s_law_read) := ⟨rfl, rfl, rfl, by decide +kernel, rfl, by decide +kernel, by decide +kernel⟩
theorem b_law_read {K : PySem.W.Frag} {fd : FuncData} (F : Fn_law_read K fd) : Binds K fd ["code", "extents", "parts", "k"] [] := F.bindsN fun _ _ _ _ _ _ us hl => match us, hl with | [_, _, _, _], _ => rfl
theorem sc_law_spine : FnScope ["code", "extents", "parts", "k", "line", "turn"] ["code", "extents", "parts", "k"] (defScope s_law_spine) := ⟨rfl, rfl, rfl, by decide +kernel, rfl, by decide +kernel, by decide +kernel⟩
theorem b_law_spine {K : PySem.W.Frag} {fd : FuncData} (F : Fn_law_spine K fd) : Binds K fd ["code", "extents", "parts", "k"] [] := F.bindsN fun _ _ _ _ _ _ us hl => match us, hl with | [_, _, _, _], _ => rfl
theorem sc_law_ask_places : FnScope ["code", "extents", "parts", "spots", "k"] ["code"] (defScope s_law_ask_places) := ⟨rfl, rfl, rfl, by decide +kernel, rfl, by decide +kernel, by decide +kernel⟩
theorem b_law_ask_places {K : PySem.W.Frag} {fd : FuncData} (F : Fn_law_ask_places K fd) : Binds K fd ["code"] [] := F.bindsN fun _ _ _ _ _ _ us hl => match us, hl with | [_], _ => rfl
theorem sc_law_ask_reading : FnScope ["code", "extents", "parts", "levels", "k"] ["code"] (defScope s_law_ask_reading) := ⟨rfl, rfl, rfl, by decide +kernel, rfl, by decide +kernel, by decide +kernel⟩
theorem b_law_ask_reading {K : PySem.W.Frag} {fd : FuncData} (F : Fn_law_ask_reading K fd) : Binds K fd ["code"] [] := F.bindsN fun _ _ _ _ _ _ us hl => match us, hl with | [_], _ => rfl
theorem sc_law_conjunction : FnScope ["line"] ["line"] (defScope s_law_conjunction) := ⟨rfl, rfl, rfl, by decide +kernel, rfl, by decide +kernel, by decide +kernel⟩
theorem b_law_conjunction {K : PySem.W.Frag} {fd : FuncData} (F : Fn_law_conjunction K fd) : Binds K fd ["line"] [] := F.bindsN fun _ _ _ _ _ _ us hl => match us, hl with | [_], _ => rfl
theorem sc_law_disjunction : FnScope ["line"] ["line"] (defScope s_law_disjunction) := ⟨rfl, rfl, rfl, by decide +kernel, rfl, by decide +kernel, by decide +kernel⟩
theorem b_law_disjunction {K : PySem.W.Frag} {fd : FuncData} (F : Fn_law_disjunction K fd) : Binds K fd ["line"] [] := F.bindsN fun _ _ _ _ _ _ us hl => match us, hl with | [_], _ => rfl
theorem sc_law_implication : FnScope ["line"] ["line"] (defScope s_law_implication) := ⟨rfl, rfl, rfl, by decide +kernel, rfl, by decide +kernel, by decide +kernel⟩
theorem b_law_implication {K : PySem.W.Frag} {fd : FuncData} (F : Fn_law_implication K fd) : Binds K fd ["line"] [] := F.bindsN fun _ _ _ _ _ _ us hl => match us, hl with | [_], _ => rfl
theorem sc_law_nested : FnScope ["line", "sign", "truth", "head", "made", "part"] ["line", "sign"] (defScope s_law_nested) := ⟨rfl, rfl, rfl, by decide +kernel, rfl, by decide +kernel, by decide +kernel⟩
theorem b_law_nested {K : PySem.W.Frag} {fd : FuncData} (F : Fn_law_nested K fd) : Binds K fd ["line", "sign"] [] := F.bindsN fun _ _ _ _ _ _ us hl => match us, hl with | [_, _], _ => rfl
theorem sc_law_ask_joined : FnScope ["pot", "words", "pool", "truth", "line", "k", "due"] ["pot", "words", "pool"] (defScope s_law_ask_joined) := ⟨rfl, rfl, rfl, by decide +kernel, rfl, by decide +kernel, by decide +kernel⟩
theorem b_law_ask_joined {K : PySem.W.Frag} {fd : FuncData} (F : Fn_law_ask_joined K fd) : Binds K fd ["pot", "words", "pool"] [] := F.bindsN fun _ _ _ _ _ _ us hl => match us, hl with | [_, _, _], _ => rfl
theorem sc_law_ask_equation : FnScope ["pot", "words", "pool", "truth", "kind", "first", "other", "head"] ["pot", "words", "pool"] (defScope s_law_ask_equation) := ⟨rfl, rfl, rfl, by decide +kernel, rfl, by decide +kernel, by decide +kernel⟩
theorem b_law_ask_equation {K : PySem.W.Frag} {fd : FuncData} (F : Fn_law_ask_equation K fd) : Binds K fd ["pot", "words", "pool"] [] := F.bindsN fun _ _ _ _ _ _ us hl => match us, hl with | [_, _, _], _ => rfl
theorem sc_law_ask_quantified : FnScope ["pot", "words", "pool", "truth", "code", "word", "kind", "row", "known", "due", "whole", "term"] ["pot", "words", "pool"] (defScope s_law_ask_quantified) := ⟨rfl, rfl, rfl, by decide +kernel, rfl, by decide +kernel, by decide +kernel⟩
theorem b_law_ask_quantified {K : PySem.W.Frag} {fd : FuncData} (F : Fn_law_ask_quantified K fd) : Binds K fd ["pot", "words", "pool"] [] := F.bindsN fun _ _ _ _ _ _ us hl => match us, hl with | [_, _, _], _ => rfl
theorem sc_law : FnScope ["script", "truth", "k", "pot", "words", "pool", "kind", "code", "base", "hop", "chain"] ["script"] (defScope s_law) := ⟨rfl, rfl, rfl, by decide +kernel, rfl, by decide +kernel, by decide +kernel⟩
theorem b_law {K : PySem.W.Frag} {fd : FuncData} (F : Fn_law K fd) : Binds K fd ["script"] [] := F.bindsN fun _ _ _ _ _ _ us hl => match us, hl with | [_], _ => rfl
end K03
/-! Displays of data, told at one go. -/
namespace L2
open PySem PySem.Spec PyProof.Rows SX TL

variable [Lit]
/-- te says d, from every heap that keeps what H0 has -/
def Ev (H0 : Hp) (te : TE) (σ : St) (d : PyData) : Prop := ∀ H Q, Same H0 H → (∀ x H', Same H H' → TD H' x d → Q x H') → te σ H Q
def EvA (H0 : Hp) (tA : TA) (σ : St) (ds : List PyData) : Prop := ∀ H Q, Same H0 H → (∀ xs H', Same H H' → TDs H' xs ds → Q xs H') → tA σ H Q
section
variable {H0 H H' : Hp} {σ : St} {d : PyData} {ds : List PyData} {te : TE} {tA : TA} {x : V} {Q : VK}
theorem Same.refl' (H : Hp) : Same H H := fun _ _ e => e
theorem Same.fresh {p : Addr} (s : Same H H') (z : H' p = none) : H p = none := by
  cases e : H p with
  | none => rfl
  | some o => rw [s p o e] at z; cases z
theorem ev_str {z : Str} : Ev H0 (tC (.str z)) σ (.str z) := fun H Q s k => w_c (k _ _ (Same.refl' H) (.str z))
theorem ev_int {i : Int} : Ev H0 (tC (.int i)) σ (.int i) := fun H Q s k => w_c (k _ _ (Same.refl' H) (.int i))
theorem ev_neg {i : Int} : Ev H0 (tUn (rU fun n => .int (-n)) (tC (.int i))) σ (.int (-i)) := fun H Q s k => w_un (w_c (w_neg (k _ _ (Same.refl' H) (.int (-i)))))
theorem ev_var {i : Nat} (e : σ[i]? = some (some x)) (t : TD H0 x d) : Ev H0 (tVar i) σ d := fun H Q s k => w_var e (k _ _ (Same.refl' H) (t.tm (Tm.same s)))
theorem eva_nil : EvA H0 tNil σ [] := fun H Q s k => w_nil (k _ _ (Same.refl' H) .nil)
theorem eva_cons (h : Ev H0 te σ d) (j : EvA H0 tA σ ds) : EvA H0 (tCons te tA) σ (d :: ds) := fun H Q s k => w_cons (h H _ s fun x H1 s1 t1 => j H1 _ (s.tr s1) fun xs H2 s2 t2 => k _ _ (s1.tr s2) (.cons (t1.tm (Tm.same s2)) t2))
theorem ev_tup (h : EvA H0 tA σ ds) (hl : ds.length ≤ 4096 := by exact Nat.le_of_ble_eq_true rfl) : Ev H0 (tTup tA) σ (.tuple ds) := fun H Q s k => w_tupN (h H _ s fun xs H1 s1 t1 => t_new t1 (fun p H2 h2 s2 t2 => k _ _ (s1.tr s2) t2) (by rw [t1.len]; exact hl))
theorem ev_lst (h : EvA H tA σ ds) (k : ∀ p H', H p = none → Same H H' → DL H' p ds → Q (.ref p) H') (hl : ds.length ≤ 4096 := by exact Nat.le_of_ble_eq_true rfl) : tLst tA σ H Q :=
  w_lstN (h H _ (Same.refl' H) fun xs H1 s1 t1 => l_new t1 (fun p H2 h2 s2 t2 => k _ _ (s1.fresh h2) (s1.tr s2) t2) (by rw [t1.len]; exact hl))
theorem ev_go (h : Ev H te σ d) (k : ∀ x H', Same H H' → TD H' x d → Q x H') : te σ H Q := h H Q (Same.refl' H) k
end
end L2

/-! Small steps over data, used by several laws. -/
namespace L2
open PySem PySem.Spec PyProof.Rows SX TL

variable [Lit]
theorem l_truth {H : Hp} {p : Addr} {ds : List PyData} {F : Bool → Prop} (h : DL H p ds) (k : F (decide (ds ≠ []))) : ∃ k, TruV K (.ref p) H k ∧ F k := by
  obtain ⟨xs, e, t⟩ := h
  refine ⟨_, .inl ⟨xs, SqL.of e, ?_⟩, k⟩
  have := t.len
  cases xs <;> cases ds <;> first | rfl | (cases this; done) | simp
theorem snoc_of {α : Type} {l : List α} (h : l ≠ []) : ∃ as a, l = as ++ [a] := ⟨_, _, (List.dropLast_concat_getLast h).symm⟩
theorem map_ne {α β : Type} {f : α → β} {l : List α} : (decide (l.map f ≠ [])) = decide (l ≠ []) := by cases l <;> rfl
theorem w_un2 {n i j : Nat} {σ : L2.St} {H : Hp} {q : Addr} {y z : V} {N : L2.St → Hp → Prop} (hn : n = 2) (hq : SqT K H q [y, z]) (h : N ((σ.set i (some y)).set j (some z)) H) : gTup K n (gCons (gName i) (gCons (gName j) gNil)) (.ref q) σ H N := by
  subst hn; exact ⟨q, _, rfl, hq, rfl, _, _, rfl, _, _, rfl, rfl, h⟩
theorem w_un3 {n i j k : Nat} {σ : L2.St} {H : Hp} {q : Addr} {x y z : V} {N : L2.St → Hp → Prop} (hn : n = 3) (hq : SqT K H q [x, y, z]) (h : N (((σ.set i (some x)).set j (some y)).set k (some z)) H) : gTup K n (gCons (gName i) (gCons (gName j) (gCons (gName k) gNil))) (.ref q) σ H N := by
  subst hn; exact ⟨q, _, rfl, hq, rfl, _, _, rfl, _, _, rfl, _, _, rfl, rfl, h⟩
theorem ev_ixL {H0 : Hp} {σ : L2.St} {i n : Nat} {p : Addr} {ds : List PyData} {d : PyData} (e : σ[i]? = some (some (.ref p))) (h : DL H0 p ds) (g : ds[n]? = some d) : Ev H0 (tOp (rIxL K) (tVar i) (tC (.int (n : Int)))) σ d := fun H Q s k => w_op (w_var e (w_c (l_ix (h.same s) g fun x tx => k _ _ (Same.refl' H) tx)))
end L2

/-! The plain law of k02: kinds, rows, trees. -/
namespace K02
open PySem L2 TL SX
abbrev wNAMED : List Nat := [110,97,109,101,100]
abbrev wFREE : List Nat := [102,114,101,101]
abbrev wTO : List Nat := [116,111]
abbrev wAPP : List Nat := [97,112,112]
abbrev wLAM : List Nat := [108,97,109]
abbrev wVAR : List Nat := [118,97,114]
abbrev wCONST : List Nat := [99,111,110,115,116]
abbrev wBOUND : List Nat := [98,111,117,110,100]
abbrev wODD : List Nat := [111,100,100]
abbrev wBOOL : List Nat := [98,111,111,108]
def LET : List Nat := [97,98,99,100,101,102,103,104,105,106,107,108,109,110,111,112,113,114,115,116,117,118,119,120,121,122]
def DIG : List Nat := [48,49,50,51,52,53,54,55,56,57,95]
def WS : List Nat := LET ++ DIG
def RES : List (List Nat) := [[97,108,108],[115,111,109,101],[108,97,109],[116,114,117,101],[102,97,108,115,101],[98,111,111,108]]
def isName (l : List Nat) : Bool := decide ((1 ≤ l.length ∧ l.length ≤ 16) ∧ l ∉ RES ∧ (∃ c, l[0]? = some c ∧ c ∈ LET) ∧ ∀ c ∈ l, c ∈ WS)
theorem name_cok {l : List Nat} (h : isName l = true) : Cok l ∧ l.length ≤ 16 := by
  have h := of_decide_eq_true h
  refine ⟨fun c hc => ?_, h.1.2⟩
  have h1 : c ∈ WS := h.2.2.2 c hc
  have h2 : ∀ c ∈ WS, c < 256 := by decide
  exact h2 c h1
/-! ### kinds -/
inductive Kd
  | nm (w : List Nat)
  | fr (w : List Nat)
  | to (a b : Kd)
  deriving DecidableEq
def Kd.d : Kd → PyData
  | .nm w => .tuple [.str (S wNAMED), .str (S w)]
  | .fr w => .tuple [.str (S wFREE), .str (S w)]
  | .to a b => .tuple [.str (S wTO), a.d, b.d]
def Kd.sz : Kd → Nat
  | .to a b => a.sz + b.sz + 1
  | _ => 1
def Kd.ht : Kd → Nat
  | .to a b => max a.ht b.ht + 1
  | _ => 1
/-- its names are names -/
def Kd.ok : Kd → Prop
  | .nm w => isName w = true ∨ w = wBOOL
  | .fr w => isName w = true
  | .to a b => a.ok ∧ b.ok
theorem Kd.sz_pos : ∀ k : Kd, 1 ≤ k.sz
  | .nm _ => Nat.le_refl _
  | .fr _ => Nat.le_refl _
  | .to a b => by show 1 ≤ a.sz + b.sz + 1; omega
theorem Kd.ht_sz : ∀ k : Kd, k.ht ≤ k.sz
  | .nm _ => Nat.le_refl _
  | .fr _ => Nat.le_refl _
  | .to a b => by
    have := a.ht_sz; have := b.ht_sz; have := a.sz_pos; have := b.sz_pos
    show max a.ht b.ht + 1 ≤ a.sz + b.sz + 1
    omega
theorem Kd.depth : ∀ k : Kd, k.d.depth = k.ht
  | .nm _ => by simp [Kd.d, Kd.ht, PyData.depth, PyData.depthAll]
  | .fr _ => by simp [Kd.d, Kd.ht, PyData.depth, PyData.depthAll]
  | .to a b => by simp [Kd.d, Kd.ht, PyData.depth, PyData.depthAll, a.depth, b.depth]
theorem S_beq {a b : List Nat} : (S a == S b) = decide (a = b) := by
  by_cases h : a = b
  · subst h; simp
  · rw [decide_eq_false h, beq_eq_false_iff_ne]; exact fun z => h (SX.S_inj z)
theorem cokNamed : Cok wNAMED := by show ∀ c ∈ wNAMED, c < 256; decide
theorem cokFree : Cok wFREE := by show ∀ c ∈ wFREE, c < 256; decide
theorem cokTo : Cok wTO := by show ∀ c ∈ wTO, c < 256; decide
theorem cokBool : Cok wBOOL := by show ∀ c ∈ wBOOL, c < 256; decide
theorem Kd.lay : ∀ k : Kd, k.ok → k.d.canLay0 = true
  | .nm w, h => by
    have c : Cok w := h.elim (fun h => (name_cok h).1) (fun h => by rw [h]; exact cokBool)
    simp only [Kd.d, PyData.canLay0, PyData.canLayAll0, strOk_S cokNamed, strOk_S c, Bool.and_self]
  | .fr w, h => by
    simp only [Kd.d, PyData.canLay0, PyData.canLayAll0, strOk_S cokFree, strOk_S (name_cok h).1, Bool.and_self]
  | .to a b, h => by
    simp only [Kd.d, PyData.canLay0, PyData.canLayAll0, strOk_S cokTo, a.lay h.1, b.lay h.2, Bool.and_self]
theorem Kd.Sz {k : Kd} (h : k.ok) {n : Nat} (z : k.ht ≤ n) : L2.Sz n k.d := ⟨k.lay h, by rw [k.depth]; exact z⟩
theorem Kd.eqv : ∀ a b : Kd, PyData.eqv a.d b.d = decide (a = b)
  | .nm w, .nm v => by
    simp only [Kd.d, PyData.eqv, PyData.eqvAll, S_beq]
    by_cases h : w = v
    · subst h; simp
    · simp [h]
  | .nm w, .fr v => by
    simp only [Kd.d, PyData.eqv, PyData.eqvAll, S_beq]
    rw [decide_eq_false (by decide)]; simp
  | .nm w, .to c e => by simp only [Kd.d, PyData.eqv, PyData.eqvAll, S_beq]; rw [decide_eq_false (by decide)]; simp
  | .fr w, .nm v => by
    simp only [Kd.d, PyData.eqv, PyData.eqvAll, S_beq]
    rw [decide_eq_false (by decide)]; simp
  | .fr w, .fr v => by
    simp only [Kd.d, PyData.eqv, PyData.eqvAll, S_beq]
    by_cases h : w = v
    · subst h; simp
    · simp [h]
  | .fr w, .to c e => by simp only [Kd.d, PyData.eqv, PyData.eqvAll, S_beq]; rw [decide_eq_false (by decide)]; simp
  | .to a b, .nm v => by simp only [Kd.d, PyData.eqv, PyData.eqvAll, S_beq]; rw [decide_eq_false (by decide)]; simp
  | .to a b, .fr v => by simp only [Kd.d, PyData.eqv, PyData.eqvAll, S_beq]; rw [decide_eq_false (by decide)]; simp
  | .to a b, .to c e => by
    simp only [Kd.d, PyData.eqv, PyData.eqvAll, S_beq, a.eqv c, b.eqv e]
    by_cases h1 : a = c
    · by_cases h2 : b = e
      · subst h1 h2; simp
      · simp [h2]
    · simp [h1]
/-! ### rows and trees -/
inductive Rw (κ τ : Type)
  | app
  | lam (k : κ)
  | tip (t : τ)
inductive Tr (κ τ : Type)
  | app (f a : Tr κ τ)
  | lam (k : κ) (b : Tr κ τ)
  | tip (t : τ)
section
variable {κ τ κ' τ' : Type}
def Rw.map (f : κ → κ') (g : τ → τ') : Rw κ τ → Rw κ' τ'
  | .app => .app
  | .lam k => .lam (f k)
  | .tip t => .tip (g t)
def Tr.map (f : κ → κ') (g : τ → τ') : Tr κ τ → Tr κ' τ'
  | .app x y => .app (x.map f g) (y.map f g)
  | .lam k b => .lam (f k) (b.map f g)
  | .tip t => .tip (g t)
def Tr.nodes : Tr κ τ → Nat
  | .app x y => x.nodes + y.nodes + 1
  | .lam _ b => b.nodes + 1
  | .tip _ => 1
def Tr.dep : Tr κ τ → Nat
  | .app x y => max x.dep y.dep + 1
  | .lam _ b => b.dep + 1
  | .tip _ => 1
theorem Tr.dep_pos : ∀ t : Tr κ τ, 1 ≤ t.dep
  | .app _ _ => Nat.succ_pos _
  | .lam _ _ => Nat.succ_pos _
  | .tip _ => Nat.le_refl _
theorem Tr.nodes_pos : ∀ t : Tr κ τ, 1 ≤ t.nodes
  | .app _ _ => Nat.succ_pos _
  | .lam _ _ => Nat.succ_pos _
  | .tip _ => Nat.le_refl _
/-- one row ahead of a forest -/
def push1 : Rw κ τ → List (Tr κ τ) → List (Tr κ τ)
  | .app, f :: a :: ts => .app f a :: ts
  | .lam k, b :: ts => .lam k b :: ts
  | .tip t, ts => .tip t :: ts
  | _, ts => ts
/-- the forest of some rows, read from the right -/
def fo : List (Rw κ τ) → List (Tr κ τ)
  | [] => []
  | r :: c => push1 r (fo c)
/-- how many trees a row takes -/
def Rw.ar : Rw κ τ → Nat
  | .app => 2
  | .lam _ => 1
  | .tip _ => 0
def fok : List (Rw κ τ) → Prop
  | [] => True
  | r :: c => r.ar ≤ (fo c).length ∧ fok c
def Vc (c : List (Rw κ τ)) (n : Nat) : Prop := fok c ∧ (fo c).length = n
theorem push1_len {r : Rw κ τ} {ts : List (Tr κ τ)} (h : r.ar ≤ ts.length) : (push1 r ts).length + r.ar = ts.length + 1 := by
  cases r with
  | app =>
    match ts, h with
    | f :: a :: ts, _ => show ts.length + 1 + 2 = ts.length + 1 + 1 + 1; omega
    | [_], h => exact absurd h (by show ¬ 2 ≤ 1; omega)
    | [], h => exact absurd h (by show ¬ 2 ≤ 0; omega)
  | lam k =>
    match ts, h with
    | b :: ts, _ => rfl
    | [], h => exact absurd h (by show ¬ 1 ≤ 0; omega)
  | tip t => rfl
theorem Vc.nil : Vc ([] : List (Rw κ τ)) 0 := ⟨trivial, rfl⟩
theorem Vc.cons {r : Rw κ τ} {c : List (Rw κ τ)} {n : Nat} (h : Vc c (n + r.ar)) : Vc (r :: c) (n + 1) := by
  have hl : r.ar ≤ (fo c).length := by rw [h.2]; omega
  refine ⟨⟨hl, h.1⟩, ?_⟩
  have := push1_len hl
  show (push1 r (fo c)).length = _
  have h2 := h.2
  omega
theorem Vc.app {c : List (Rw κ τ)} {n : Nat} (h : Vc c (n + 2)) : Vc (.app :: c) (n + 1) := Vc.cons (r := .app) h
theorem Vc.lam {c : List (Rw κ τ)} {n : Nat} {k : κ} (h : Vc c (n + 1)) : Vc (.lam k :: c) (n + 1) := Vc.cons (r := .lam k) h
theorem Vc.tip {c : List (Rw κ τ)} {n : Nat} {t : τ} (h : Vc c n) : Vc (.tip t :: c) (n + 1) := Vc.cons (r := .tip t) h
theorem Vc.uncons {r : Rw κ τ} {c : List (Rw κ τ)} {n : Nat} (h : Vc (r :: c) n) : ∃ m, n = m + 1 ∧ Vc c (m + r.ar) := by
  obtain ⟨⟨h1, h2⟩, h3⟩ := h
  have e := push1_len h1
  have h3 : (push1 r (fo c)).length = n := h3
  exact ⟨(fo c).length - r.ar, by omega, h2, by omega⟩
theorem Vc.append {c1 c2 : List (Rw κ τ)} {m n : Nat} (h1 : Vc c1 m) (h2 : Vc c2 n) : Vc (c1 ++ c2) (m + n) := by
  induction c1 generalizing m with
  | nil =>
    have : m = 0 := h1.2.symm
    subst this
    rw [Nat.zero_add]; exact h2
  | cons r c1 ih =>
    obtain ⟨k, rfl, h⟩ := h1.uncons
    have := ih h
    rw [show k + 1 + n = (k + n) + 1 by omega]
    exact Vc.cons (by rw [show k + n + r.ar = k + r.ar + n by omega]; exact this)
theorem Vc.set {c : List (Rw κ τ)} {n : Nat} (h : Vc c n) {i : Nat} {r r' : Rw κ τ} (e : c[i]? = some r) (a : r'.ar = r.ar) : Vc (c.set i r') n := by
  induction c generalizing i n with
  | nil => cases e
  | cons q c ih =>
    obtain ⟨m, rfl, h'⟩ := h.uncons
    cases i with
    | zero => cases e; exact Vc.cons (by rw [a]; exact h')
    | succ i => exact Vc.cons (ih h' e)
theorem push1_map (f : κ → κ') (g : τ → τ') (r : Rw κ τ) (ts : List (Tr κ τ)) : push1 (r.map f g) (ts.map (Tr.map f g)) = (push1 r ts).map (Tr.map f g) := by
  cases r with
  | app =>
    match ts with
    | [] => rfl
    | [_] => rfl
    | _ :: _ :: _ => rfl
  | lam k => cases ts <;> rfl
  | tip t => rfl
theorem fo_map (f : κ → κ') (g : τ → τ') : ∀ c : List (Rw κ τ), fo (c.map (Rw.map f g)) = (fo c).map (Tr.map f g)
  | [] => rfl
  | r :: c => by
    show push1 (r.map f g) (fo (c.map _)) = _
    rw [fo_map f g c, push1_map]; rfl
theorem ar_map (f : κ → κ') (g : τ → τ') (r : Rw κ τ) : (r.map f g).ar = r.ar := by cases r <;> rfl
theorem Vc.map (f : κ → κ') (g : τ → τ') {c : List (Rw κ τ)} {n : Nat} (h : Vc c n) : Vc (c.map (Rw.map f g)) n := by
  induction c generalizing n with
  | nil => exact h.2 ▸ Vc.nil
  | cons r c ih =>
    obtain ⟨m, rfl, h'⟩ := h.uncons
    exact Vc.cons (by rw [ar_map]; exact ih h')
theorem nodes_map (f : κ → κ') (g : τ → τ') : ∀ t : Tr κ τ, (t.map f g).nodes = t.nodes
  | .app x y => by show (x.map f g).nodes + (y.map f g).nodes + 1 = _; rw [nodes_map, nodes_map]; rfl
  | .lam k b => by show (b.map f g).nodes + 1 = _; rw [nodes_map]; rfl
  | .tip _ => rfl
theorem dep_map (f : κ → κ') (g : τ → τ') : ∀ t : Tr κ τ, (t.map f g).dep = t.dep
  | .app x y => by show max (x.map f g).dep (y.map f g).dep + 1 = _; rw [dep_map, dep_map]; rfl
  | .lam k b => by show (b.map f g).dep + 1 = _; rw [dep_map]; rfl
  | .tip _ => rfl
/-- the rows of a forest are as many as its nodes -/
theorem fo_nodes {c : List (Rw κ τ)} {n : Nat} (h : Vc c n) : ((fo c).map Tr.nodes).sum = c.length := by
  induction c generalizing n with
  | nil => rfl
  | cons r c ih =>
    obtain ⟨m, rfl, h'⟩ := h.uncons
    have e := ih h'
    have hl : r.ar ≤ (fo c).length := by rw [h'.2]; omega
    show ((push1 r (fo c)).map Tr.nodes).sum = c.length + 1
    rw [← e]
    clear e ih h h'
    cases r with
    | app =>
      match q : fo c, hl with
      | x :: y :: ts, _ =>
        show x.nodes + y.nodes + 1 + (ts.map Tr.nodes).sum = x.nodes + (y.nodes + (ts.map Tr.nodes).sum) + 1
        omega
      | [_], h => exact absurd h (by show ¬ 2 ≤ 1; omega)
      | [], h => exact absurd h (by show ¬ 2 ≤ 0; omega)
    | lam k =>
      match q : fo c, hl with
      | x :: ts, _ =>
        show x.nodes + 1 + (ts.map Tr.nodes).sum = x.nodes + (ts.map Tr.nodes).sum + 1
        omega
      | [], h => exact absurd h (by show ¬ 1 ≤ 0; omega)
    | tip t => show 1 + ((fo c).map Tr.nodes).sum = _; omega
theorem Vc.tree {c : List (Rw κ τ)} (h : Vc c 1) : ∃ t, fo c = [t] := by
  match q : fo c, h.2 with
  | [t], _ => exact ⟨t, rfl⟩
  | [], z => cases z
  | _ :: _ :: _, z => cases z
end
/-! ### what rows and trees are in Python -/
inductive Tp
  | tip (d : PyData)
  | odd (d : PyData)
abbrev PRow := Rw PyData Tp
abbrev PTr := Tr PyData Tp
def Tp.row : Tp → PyData
  | .tip d => d
  | .odd d => .tuple [.str (S wODD), d]
def Tp.d : Tp → PyData
  | .tip d => d
  | .odd d => d
def Rw.d : PRow → PyData
  | .app => .tuple [.str (S wAPP)]
  | .lam k => .tuple [.str (S wLAM), k]
  | .tip t => t.row
def Tr.d : PTr → PyData
  | .app f a => .tuple [.str (S wAPP), f.d, a.d]
  | .lam k b => .tuple [.str (S wLAM), k, b.d]
  | .tip t => t.d
/-- a leaf's row is told by its first word -/
def TipOk (d : PyData) : Prop := ∃ s r, d = .tuple (.str (S s) :: r) ∧ s ≠ wAPP ∧ s ≠ wLAM ∧ s ≠ wODD
def RowOk : PRow → Prop
  | .tip (.tip d) => TipOk d
  | _ => True
/-- a well-made leaf -/
inductive Lf
  | var (w : List Nat) (k : Kd)
  | cst (w : List Nat) (k : Kd)
  | bnd (i : Nat)
def Lf.d : Lf → PyData
  | .var w k => .tuple [.str (S wVAR), .str (S w), k.d]
  | .cst w k => .tuple [.str (S wCONST), .str (S w), k.d]
  | .bnd i => .tuple [.str (S wBOUND), .int (i : Int)]
abbrev G2 := Rw Kd Lf
abbrev Gt := Tr Kd Lf
def upR : G2 → PRow := Rw.map Kd.d (fun l => .tip l.d)
def upT : Gt → PTr := Tr.map Kd.d (fun l => .tip l.d)
def LOGIC : List (List Nat) := [[116,114,117,101],[102,97,108,115,101],[126],[38],[124],[61,62],[61],[97,108,108],[115,111,109,101]]
def GK (k : Kd) : Prop := k.ok ∧ k.sz ≤ 100
def Lf.ok : Lf → Prop
  | .var w k => isName w = true ∧ GK k
  | .cst w k => (isName w = true ∨ w ∈ LOGIC) ∧ GK k
  | .bnd _ => True
def Rw.gok : G2 → Prop
  | .app => True
  | .lam k => GK k
  | .tip l => l.ok
def Tr.gok : Gt → Prop
  | .app f a => f.gok ∧ a.gok
  | .lam k b => GK k ∧ b.gok
  | .tip l => l.ok
theorem lf_tip (l : Lf) : TipOk l.d := by
  cases l with
  | var w k => exact ⟨_, _, rfl, by decide, by decide, by decide⟩
  | cst w k => exact ⟨_, _, rfl, by decide, by decide, by decide⟩
  | bnd i => exact ⟨_, _, rfl, by decide, by decide, by decide⟩
theorem upR_ok (r : G2) : RowOk (upR r) := by cases r with | app => trivial | lam k => trivial | tip l => exact lf_tip l
theorem fo_gok {c : List G2} {n : Nat} (v : Vc c n) (h : ∀ r ∈ c, r.gok) : ∀ t ∈ fo c, t.gok := by
  induction c generalizing n with
  | nil => intro t ht; cases ht
  | cons r c ih =>
    obtain ⟨m, rfl, v'⟩ := v.uncons
    have hl : r.ar ≤ (fo c).length := by rw [v'.2]; omega
    have ih := ih v' fun r hr => h r (List.mem_cons_of_mem _ hr)
    have hr := h r List.mem_cons_self
    show ∀ t ∈ push1 r (fo c), t.gok
    cases r with
    | app =>
      match q : fo c, hl, ih with
      | x :: y :: ts, _, ih =>
        intro t ht
        rcases List.mem_cons.mp ht with rfl | ht
        · exact ⟨ih x (by simp), ih y (by simp)⟩
        · exact ih t (by simp [ht])
      | [_], h, _ => exact absurd h (by show ¬ 2 ≤ 1; omega)
      | [], h, _ => exact absurd h (by show ¬ 2 ≤ 0; omega)
    | lam k =>
      match q : fo c, hl, ih with
      | x :: ts, _, ih =>
        intro t ht
        rcases List.mem_cons.mp ht with rfl | ht
        · exact ⟨hr, ih x (by simp)⟩
        · exact ih t (by simp [ht])
      | [], h, _ => exact absurd h (by show ¬ 1 ≤ 0; omega)
    | tip l =>
      intro t ht
      rcases List.mem_cons.mp ht with rfl | ht
      · exact hr
      · exact ih t ht
/-! ### typing -/
def typed : Gt → List Kd → Option Kd
  | .app f a, ar => match typed f ar, typed a ar with
    | some (.to x y), some z => if x = z then some y else none
    | _, _ => none
  | .lam k b, ar => match typed b (k :: ar) with
    | some x => some (.to k x)
    | none => none
  | .tip (.var _ k), _ => some k
  | .tip (.cst _ k), _ => some k
  | .tip (.bnd i), ar => ar[i]?
/-- bound variables below l -/
def inScope : Gt → Nat → Bool
  | .app f a, l => inScope f l && inScope a l
  | .lam _ b, l => inScope b (l + 1)
  | .tip (.bnd i), l => decide (i < l)
  | .tip _, _ => true
end K02

/-! The plain law of k02: what kind_ok and _form_ok say of any value that is asked here. -/
namespace K02
open PySem L2 TL SX
/-- what _kind_parts says -/
inductive KP : PyData → Option (List PyData) → Prop
  | notT {d : PyData} (h : tyOf d ≠ "tuple") : KP d none
  | to (a b : PyData) : KP (.tuple [.str (S wTO), a, b]) (some [a, b])
  | len {ds : List PyData} (h2 : ds.length ≠ 2) (h3 : ds.length ≠ 3) : KP (.tuple ds) none
  | three {s : List Nat} (a b : PyData) (h : s ≠ wTO) : KP (.tuple [.str (S s), a, b]) none
  | two {s : List Nat} (a : PyData) (h : s ≠ wNAMED) (h' : s ≠ wFREE) : KP (.tuple [.str (S s), a]) none
  | name {s w : List Nat} (h : s = wNAMED ∨ s = wFREE) (hw : Cok w) (hl : w.length ≤ 1000) : KP (.tuple [.str (S s), .str (S w)]) (if (decide (s = wNAMED ∧ w = wBOOL) || isName w) = true then some [] else none)
  | odd {s : List Nat} {a : PyData} (h : s = wNAMED ∨ s = wFREE) (ha : tyOf a ≠ "str") (hs : L2.Sz 100 a) : KP (.tuple [.str (S s), a]) none
inductive VKd : PyData → Nat → Prop
  | leaf {d : PyData} (h : KP d (some [])) : VKd d 1
  | node {a b : PyData} {m n : Nat} (h : VKd a m) (k : VKd b n) : VKd (.tuple [.str (S wTO), a, b]) (m + n + 1)
inductive BadK : PyData → Prop
  | leaf {d : PyData} (h : KP d none) : BadK d
  | l {a b : PyData} {n : Nat} (h : BadK a) (k : VKd b n) : BadK (.tuple [.str (S wTO), a, b])
  | r {a b : PyData} {n : Nat} (h : VKd a n) (k : BadK b) : BadK (.tuple [.str (S wTO), a, b])
  | lr {a b : PyData} (h : BadK a) (k : BadK b) : BadK (.tuple [.str (S wTO), a, b])
theorem Kd.vk : ∀ k : Kd, k.ok → VKd k.d k.sz
  | .nm w, h => .leaf (by
      have hc : Cok w ∧ w.length ≤ 1000 := h.elim (fun h => ⟨(name_cok h).1, by have := (name_cok h).2; omega⟩) (fun h => by rw [h]; exact ⟨cokBool, by decide⟩)
      have := KP.name (s := wNAMED) (w := w) (.inl rfl) hc.1 hc.2
      rw [if_pos (by rcases h with h | h; rw [h, Bool.or_true]; rw [h]; decide)] at this
      exact this)
  | .fr w, h => .leaf (by
      have h : isName w = true := h
      have := KP.name (s := wFREE) (w := w) (.inr rfl) (name_cok h).1 (by have := (name_cok h).2; omega)
      rw [if_pos (by rw [h, Bool.or_true])] at this
      exact this)
  | .to a b, h => .node (a.vk h.1) (b.vk h.2)
/-- kind_ok says b of k -/
inductive KF : PyData → Bool → Prop
  | good {k : PyData} {n : Nat} (h : VKd k n) : KF k (decide (n ≤ 100))
  | bad {k : PyData} (h : BadK k) : KF k false
theorem GK.kf {k : Kd} (h : GK k) : KF k.d true := by
  have := KF.good (k.vk h.1)
  rwa [decide_eq_true h.2] at this
/-- _form_ok says b of d at level l -/
inductive LF : PyData → Nat → Bool → Prop
  | notT {d : PyData} {l : Nat} (h : tyOf d ≠ "tuple") : LF d l false
  | len {ds : List PyData} {l : Nat} (h2 : ds.length ≠ 2) (h3 : ds.length ≠ 3) : LF (.tuple ds) l false
  | two {s : List Nat} {x : PyData} {l : Nat} (h : s ≠ wBOUND) (h1 : tyOf x ≠ "int") (h2 : tyOf x ≠ "bool") : LF (.tuple [.str (S s), x]) l false
  | bndO {x : PyData} {l : Nat} (h : tyOf x ≠ "int") (h' : tyOf x ≠ "bool") : LF (.tuple [.str (S wBOUND), x]) l false
  | bnd {i : Int} {l : Nat} : LF (.tuple [.str (S wBOUND), .int i]) l (decide (0 ≤ i ∧ i < l))
  | three {s : List Nat} {x y : PyData} {l : Nat} (h1 : s ≠ wVAR) (h2 : s ≠ wCONST) (h3 : s ≠ wLAM) (h4 : s ≠ wAPP) : LF (.tuple [.str (S s), x, y]) l false
  | app {x y : PyData} {l : Nat} : LF (.tuple [.str (S wAPP), x, y]) l true
  | lam {x y : PyData} {l : Nat} {b : Bool} (h : KF x b) : LF (.tuple [.str (S wLAM), x, y]) l b
  | varO {x y : PyData} {l : Nat} (h : tyOf x ≠ "str") : LF (.tuple [.str (S wVAR), x, y]) l false
  | varN {w : List Nat} {y : PyData} {l : Nat} (hl : w.length ≤ 1000) (h : isName w = false) : LF (.tuple [.str (S wVAR), .str (S w), y]) l false
  | var {w : List Nat} {y : PyData} {l : Nat} {b : Bool} (h : isName w = true) (k : KF y b) : LF (.tuple [.str (S wVAR), .str (S w), y]) l b
  | cstO {x y : PyData} {l : Nat} (h : tyOf x ≠ "str") (hs : L2.Sz 100 x) : LF (.tuple [.str (S wCONST), x, y]) l false
  | cstN {w : List Nat} {y : PyData} {l : Nat} (hl : w.length ≤ 1000) (hc : Cok w) (h : isName w = false) (h' : w ∉ LOGIC) : LF (.tuple [.str (S wCONST), .str (S w), y]) l false
  | cst {w : List Nat} {y : PyData} {l : Nat} {b : Bool} (hl : w.length ≤ 1000) (h : isName w = true ∨ w ∈ LOGIC) (k : KF y b) : LF (.tuple [.str (S wCONST), .str (S w), y]) l b
/-- all parts of a tree, asked one by one, give b together -/
inductive AK : PTr → Nat → Bool → Prop
  | app {f a : PTr} {l : Nat} {b c : Bool} (h : AK f l b) (k : AK a l c) : AK (.app f a) l (b && c)
  | lam {k : PyData} {t : PTr} {l : Nat} {b c : Bool} (h : KF k b) (j : AK t (l + 1) c) : AK (.lam k t) l (b && c)
  | tip {t : Tp} {l : Nat} {b : Bool} (h : LF t.d l b) (hl : b = true → ∀ s r, t.d = .tuple (.str (S s) :: r) → s ≠ wAPP ∧ s ≠ wLAM) : AK (.tip t) l b
theorem Lf.lf {l : Lf} (h : l.ok) (n : Nat) : LF l.d n (inScope (.tip l) n) := by
  cases l with
  | var w k => exact .var h.1 h.2.kf
  | cst w k =>
    have : w.length ≤ 1000 := h.1.elim (fun h => by have := (name_cok h).2; omega) (fun h => by
      have : ∀ w ∈ LOGIC, w.length ≤ 1000 := by decide
      exact this w h)
    exact .cst this h.1 h.2.kf
  | bnd i =>
    have := LF.bnd (i := (i : Int)) (l := n)
    rw [show decide (0 ≤ (i : Int) ∧ (i : Int) < (n : Int)) = decide (i < n) by
      by_cases z : i < n
      · rw [decide_eq_true z, decide_eq_true (by omega)]
      · rw [decide_eq_false z, decide_eq_false (by omega)]] at this
    exact this
theorem Tr.gok_ak : ∀ {t : Gt} (n : Nat), t.gok → AK (upT t) n (inScope t n)
  | .app f a, n, h => .app (gok_ak n h.1) (gok_ak n h.2)
  | .lam k b, n, h => by
    have := AK.lam h.1.kf (gok_ak (n + 1) h.2)
    rw [Bool.true_and] at this
    exact this
  | .tip l, n, h => .tip (Lf.lf h n) (fun _ s r e => by
      have e : l.d = .tuple (.str (S s) :: r) := e
      cases l with
      | var w k =>
        have : S wVAR = S s := by have := e; simp only [Lf.d, PyData.tuple.injEq, List.cons.injEq, PyData.str.injEq] at this; exact this.1
        rw [← SX.S_inj this]; exact ⟨by decide, by decide⟩
      | cst w k =>
        have : S wCONST = S s := by have := e; simp only [Lf.d, PyData.tuple.injEq, List.cons.injEq, PyData.str.injEq] at this; exact this.1
        rw [← SX.S_inj this]; exact ⟨by decide, by decide⟩
      | bnd i =>
        have : S wBOUND = S s := by have := e; simp only [Lf.d, PyData.tuple.injEq, List.cons.injEq, PyData.str.injEq] at this; exact this.1
        rw [← SX.S_inj this]; exact ⟨by decide, by decide⟩)
theorem LF.head {d : PyData} {l : Nat} (h : LF d l true) : ∃ s r, d = .tuple (.str (S s) :: r) := by
  generalize hb : true = b at h
  cases h with
  | notT h => cases hb
  | len h2 h3 => cases hb
  | two h h1 h2 => cases hb
  | bndO h h' => cases hb
  | bnd => exact ⟨_, _, rfl⟩
  | three h1 h2 h3 h4 => cases hb
  | app => exact ⟨_, _, rfl⟩
  | lam h => exact ⟨_, _, rfl⟩
  | varO h => cases hb
  | varN hl h => cases hb
  | var h k => exact ⟨_, _, rfl⟩
  | cstO h hs => cases hb
  | cstN hl hc h h' => cases hb
  | cst hl h k => exact ⟨_, _, rfl⟩
/-- a tree's root and its parts -/
def Parts (t : PTr) (l : Nat) (b : Bool) : Prop := match t with
  | .app f a => ∃ c1 c2, AK f l c1 ∧ AK a l c2 ∧ b = (c1 && c2)
  | .lam _ u => ∃ c, AK u (l + 1) c ∧ b = c
  | .tip p => b = true ∧ ∃ s r, p.d = .tuple (.str (S s) :: r) ∧ s ≠ wAPP ∧ s ≠ wLAM
theorem AK.root {t : PTr} {l : Nat} {b : Bool} (h : AK t l b) : ∃ b0, LF t.d l b0 ∧ (b0 = false → b = false) ∧ (b0 = true → Parts t l b) := by
  cases h with
  | app h k => exact ⟨true, .app, (fun z => by cases z), fun _ => ⟨_, _, h, k, rfl⟩⟩
  | lam h j =>
    rename_i k t b0 c
    exact ⟨b0, .lam h, (fun z => by rw [z]; rfl), fun z => ⟨_, j, by rw [z]; rfl⟩⟩
  | tip h hl =>
    refine ⟨b, h, id, fun z => ?_⟩
    subst z
    obtain ⟨s, r, e⟩ := h.head
    exact ⟨rfl, s, r, e, hl rfl s r e⟩
/-! the stack of a walk over a tree: parts with their depths -/
def dm {α : Type} (dep : α → Nat) (p : α → Nat) : List α → Nat
  | [] => 0
  | e :: r => max (p e + dep e) (dm dep p r)
theorem dm_app {α : Type} (dep p : α → Nat) : ∀ xs ys : List α, dm dep p (xs ++ ys) = max (dm dep p xs) (dm dep p ys)
  | [], ys => by show dm dep p ys = max 0 _; omega
  | e :: r, ys => by show max _ (dm dep p (r ++ ys)) = max (max _ _) _; rw [dm_app dep p r ys]; omega
theorem typed_ht : ∀ {g : Gt} {ar : List Kd} {k : Kd}, g.gok → (∀ k ∈ ar, k.ok ∧ k.ht ≤ 100) → typed g ar = some k → k.ok ∧ k.ht ≤ 100 + g.dep
  | .app f a, ar, k, h, ha, e => by
    unfold typed at e
    cases e1 : typed f ar with
    | none => rw [e1] at e; cases e
    | some x =>
      cases e2 : typed a ar with
      | none => rw [e1, e2] at e; cases x <;> cases e
      | some z =>
        rw [e1, e2] at e
        obtain ⟨q1, q2⟩ := typed_ht h.1 ha e1
        cases x with
        | nm w => cases e
        | fr w => cases e
        | to x y =>
          dsimp only at e
          split at e
          · cases e
            have q2 : max x.ht k.ht + 1 ≤ 100 + f.dep := q2
            exact ⟨q1.2, by show k.ht ≤ 100 + (max f.dep a.dep + 1); omega⟩
          · cases e
  | .lam k b, ar, k', h, ha, e => by
    unfold typed at e
    cases e1 : typed b (k :: ar) with
    | none => rw [e1] at e; cases e
    | some x =>
      rw [e1] at e
      cases e
      have hk : k.ht ≤ 100 := Nat.le_trans k.ht_sz h.1.2
      obtain ⟨q1, q2⟩ := typed_ht h.2 (fun k' hk' => by
        rcases List.mem_cons.mp hk' with rfl | hk'
        · exact ⟨h.1.1, hk⟩
        · exact ha k' hk') e1
      exact ⟨⟨h.1.1, q1⟩, by show max k.ht x.ht + 1 ≤ 100 + (b.dep + 1); omega⟩
  | .tip (.var w k), ar, k', h, ha, e => by
    have e : some k = some k' := e
    cases e
    exact ⟨h.2.1, by have := k.ht_sz; have := h.2.2; show k.ht ≤ 100 + 1; omega⟩
  | .tip (.cst w k), ar, k', h, ha, e => by
    have e : some k = some k' := e
    cases e
    exact ⟨h.2.1, by have := k.ht_sz; have := h.2.2; show k.ht ≤ 100 + 1; omega⟩
  | .tip (.bnd i), ar, k', h, ha, e => by
    have e : ar[i]? = some k' := e
    obtain ⟨q1, q2⟩ := ha k' (List.mem_of_getElem? e)
    exact ⟨q1, by omega⟩
/-- what the program answers -/
def wf (g : Gt) : Option Kd := if inScope g 0 = true ∧ g.nodes ≤ 400 ∧ g.dep ≤ 50 then typed g [] else none
/-! the loop of kind_ok: what is asked so far, what waits -/
def KO (size : Nat) (ds : List PyData) (b : Bool) : Prop :=
  (∃ ns, Paired VKd ds ns ∧ b = decide (size + ns.sum ≤ 100)) ∨ ((∀ d ∈ ds, (∃ n, VKd d n) ∨ BadK d) ∧ (∃ d ∈ ds, BadK d) ∧ b = false)
theorem KO.start {d : PyData} {b : Bool} (h : KF d b) : KO 0 [d] b := by
  cases h with
  | good h => rename_i n; exact .inl ⟨[n], .cons h .nil, by simp⟩
  | bad h => exact .inr ⟨fun e he => by rw [List.mem_singleton.mp he]; exact .inr h, ⟨d, List.mem_singleton.mpr rfl, h⟩, rfl⟩
theorem KO.done {size : Nat} {b : Bool} (h : KO size [] b) (z : size ≤ 100) : b = true := by
  rcases h with ⟨ns, p, rfl⟩ | ⟨_, ⟨d, hd, _⟩, _⟩
  · cases p; exact decide_eq_true (by simpa using z)
  · cases hd
theorem KO.over {size : Nat} {ds : List PyData} {b : Bool} (h : KO size ds b) (z : 100 < size) : b = false := by
  rcases h with ⟨ns, p, rfl⟩ | ⟨_, _, h⟩
  · exact decide_eq_false (by omega)
  · exact h
theorem paired_snoc {α β : Type} {R : α → β → Prop} : ∀ {xs : List α} {x : α} {ys : List β}, Paired R (xs ++ [x]) ys → ∃ zs y, ys = zs ++ [y] ∧ Paired R xs zs ∧ R x y
  | [], x, _, .cons a r => by cases r; exact ⟨[], _, rfl, .nil, a⟩
  | x' :: xs, x, _, .cons a r => by
    obtain ⟨zs, y, rfl, p, q⟩ := paired_snoc r
    exact ⟨_ :: zs, y, rfl, .cons a p, q⟩
theorem paired_app {α β : Type} {R : α → β → Prop} : ∀ {xs : List α} {ys : List β} {xs' : List α} {ys' : List β}, Paired R xs ys → Paired R xs' ys' → Paired R (xs ++ xs') (ys ++ ys')
  | _, _, _, _, .nil, q => q
  | _, _, _, _, .cons a r, q => .cons a (paired_app r q)
theorem KO.step {size : Nat} {ds : List PyData} {e : PyData} {b : Bool} (h : KO size (ds ++ [e]) b) : ∃ o, KP e o ∧ (o = none → b = false) ∧ ∀ l, o = some l → KO (size + 1) (ds ++ l) b ∧ l.length ≤ 2 := by
  rcases h with ⟨ns, p, rfl⟩ | ⟨h1, ⟨d, hd, hb⟩, rfl⟩
  · obtain ⟨ms, n, rfl, p1, q⟩ := paired_snoc p
    cases q with
    | leaf hk =>
      refine ⟨_, hk, (fun z => by cases z), fun l z => ?_⟩
      cases z
      exact ⟨.inl ⟨ms, by rw [List.append_nil]; exact p1, by rw [List.sum_append]; congr 1; simp; omega⟩, Nat.zero_le _⟩
    | node ha hc =>
      rename_i a c m k
      refine ⟨_, .to a c, (fun z => by cases z), fun l z => ?_⟩
      cases z
      refine ⟨.inl ⟨ms ++ [m, k], paired_app p1 (.cons ha (.cons hc .nil)), ?_⟩, Nat.le_refl _⟩
      rw [List.sum_append, List.sum_append]; congr 1; simp; omega
  · have rest : ∀ l : List PyData, (∀ x ∈ l, (∃ n, VKd x n) ∨ BadK x) → ((∃ x ∈ ds, BadK x) ∨ ∃ x ∈ l, BadK x) → KO (size + 1) (ds ++ l) false := fun l q1 q2 => by
      refine .inr ⟨fun x hx => ?_, ?_, rfl⟩
      · rcases List.mem_append.mp hx with hx | hx
        · exact h1 x (List.mem_append_left _ hx)
        · exact q1 x hx
      · rcases q2 with ⟨x, hx, hx'⟩ | ⟨x, hx, hx'⟩
        · exact ⟨x, List.mem_append_left _ hx, hx'⟩
        · exact ⟨x, List.mem_append_right _ hx, hx'⟩
    have hbad : BadK e ∨ ((∃ x ∈ ds, BadK x) ∧ ∃ n, VKd e n) := by
      rcases List.mem_append.mp hd with hd | hd
      · rcases h1 e (List.mem_append_right _ (List.mem_singleton.mpr rfl)) with h | h
        · exact .inr ⟨⟨d, hd, hb⟩, h⟩
        · exact .inl h
      · rw [List.mem_singleton.mp hd] at hb; exact .inl hb
    rcases hbad with hbad | ⟨hx, n, hv⟩
    · cases hbad with
      | leaf hk => exact ⟨_, hk, (fun _ => rfl), fun l z => by cases z⟩
      | l ha hc =>
        rename_i a c n
        refine ⟨_, .to a c, (fun z => by cases z), fun l z => ?_⟩
        cases z
        exact ⟨rest _ (by intro x hx; simp at hx; rcases hx with rfl | rfl; exact .inr ha; exact .inl ⟨_, hc⟩) (.inr ⟨a, by simp, ha⟩), Nat.le_refl _⟩
      | r ha hc =>
        rename_i a c n
        refine ⟨_, .to a c, (fun z => by cases z), fun l z => ?_⟩
        cases z
        exact ⟨rest _ (by intro x hx; simp at hx; rcases hx with rfl | rfl; exact .inl ⟨_, ha⟩; exact .inr hc) (.inr ⟨c, by simp, hc⟩), Nat.le_refl _⟩
      | lr ha hc =>
        rename_i a c
        refine ⟨_, .to a c, (fun z => by cases z), fun l z => ?_⟩
        cases z
        exact ⟨rest _ (by intro x hx; simp at hx; rcases hx with rfl | rfl; exact .inr ha; exact .inr hc) (.inr ⟨a, by simp, ha⟩), Nat.le_refl _⟩
    · cases hv with
      | leaf hk =>
        refine ⟨_, hk, (fun z => by cases z), fun l z => ?_⟩
        cases z
        exact ⟨rest [] (fun x hx => by cases hx) (.inl hx), Nat.zero_le _⟩
      | node ha hc =>
        rename_i a c m k
        refine ⟨_, .to a c, (fun z => by cases z), fun l z => ?_⟩
        cases z
        exact ⟨rest _ (by intro x hx; simp at hx; rcases hx with rfl | rfl; exact .inl ⟨_, ha⟩; exact .inl ⟨_, hc⟩) (.inl hx), Nat.le_refl _⟩
end K02

/-! The plain law of k02: walks over rows. -/
namespace K02
open PySem L2 TL SX
section
variable {κ τ : Type} {α : Type}
theorem fok_drop {c : List (Rw κ τ)} (h : fok c) (k : Nat) : fok (c.drop k) := by
  induction k generalizing c with
  | zero => exact h
  | succ k ih =>
    cases c with
    | nil => exact h
    | cons r c => exact ih h.2
/-- the row at k and what is behind it -/
theorem drop_at {c : List (Rw κ τ)} {k : Nat} {r : Rw κ τ} (e : c[k]? = some r) : c.drop k = r :: c.drop (k + 1) := by
  obtain ⟨hk, rfl⟩ := List.getElem?_eq_some_iff.mp e
  exact List.drop_eq_getElem_cons hk
theorem fo_at {c : List (Rw κ τ)} {k : Nat} {r : Rw κ τ} (e : c[k]? = some r) : fo (c.drop k) = push1 r (fo (c.drop (k + 1))) := by rw [drop_at e]; rfl
theorem ar_at {c : List (Rw κ τ)} (h : fok c) {k : Nat} {r : Rw κ τ} (e : c[k]? = some r) : r.ar ≤ (fo (c.drop (k + 1))).length := by
  have := fok_drop h k
  rw [drop_at e] at this
  exact this.1
theorem two_of {l : List α} (h : 2 ≤ l.length) : ∃ a b r, l = a :: b :: r := by
  match l, h with
  | a :: b :: r, _ => exact ⟨a, b, r, rfl⟩
  | [_], h => exact absurd h (by show ¬ 2 ≤ 1; omega)
  | [], h => exact absurd h (by show ¬ 2 ≤ 0; omega)
theorem one_of {l : List α} (h : 1 ≤ l.length) : ∃ a r, l = a :: r := by
  match l, h with
  | a :: r, _ => exact ⟨a, r, rfl⟩
  | [], h => exact absurd h (by show ¬ 1 ≤ 0; omega)
/-- the trees behind a row: what they are and what they become -/
theorem at_app {c : List (Rw κ τ)} (h : fok c) {k : Nat} (e : c[k]? = some .app) : ∃ f a ts, fo (c.drop (k + 1)) = f :: a :: ts ∧ fo (c.drop k) = .app f a :: ts := by
  obtain ⟨f, a, ts, q⟩ := two_of (ar_at h e)
  exact ⟨f, a, ts, q, by rw [fo_at e, q]; rfl⟩
theorem at_lam {c : List (Rw κ τ)} (h : fok c) {k : Nat} {x : κ} (e : c[k]? = some (.lam x)) : ∃ b ts, fo (c.drop (k + 1)) = b :: ts ∧ fo (c.drop k) = .lam x b :: ts := by
  obtain ⟨b, ts, q⟩ := one_of (ar_at h e)
  exact ⟨b, ts, q, by rw [fo_at e, q]; rfl⟩
theorem at_tip {c : List (Rw κ τ)} {k : Nat} {t : τ} (e : c[k]? = some (.tip t)) : fo (c.drop k) = .tip t :: fo (c.drop (k + 1)) := by rw [fo_at e]; rfl
theorem fo_len {c : List (Rw κ τ)} (h : fok c) (k : Nat) : (fo (c.drop k)).length ≤ c.length - k := by
  induction c generalizing k with
  | nil => cases k <;> exact Nat.zero_le _
  | cons r c ih =>
    cases k with
    | zero =>
      have e := push1_len h.1
      have := ih h.2 0
      have h2 : (fo (c.drop 0)).length ≤ c.length - 0 := this
      rw [List.drop_zero] at h2
      show (push1 r (fo c)).length ≤ (c.length + 1) - 0
      omega
    | succ k =>
      have := ih h.2 k
      show (fo (c.drop k)).length ≤ (c.length + 1) - (k + 1)
      omega
/-! what waits -/
def nxt (ap : α → α) (lm : κ → α → α) : Rw κ τ → List α → List α
  | .app, p :: ps => ap p :: ap p :: ps
  | .lam k, p :: ps => lm k p :: ps
  | .tip _, _ :: ps => ps
  | _, [] => []
def pend (ap : α → α) (lm : κ → α → α) (c : List (Rw κ τ)) (p0 : List α) : Nat → List α
  | 0 => p0
  | k + 1 => match c[k]? with
    | some r => nxt ap lm r (pend ap lm c p0 k)
    | none => pend ap lm c p0 k
theorem pend_at {ap : α → α} {lm : κ → α → α} {c : List (Rw κ τ)} {p0 : List α} {k : Nat} {r : Rw κ τ} (e : c[k]? = some r) : pend ap lm c p0 (k + 1) = nxt ap lm r (pend ap lm c p0 k) := by
  show (match c[k]? with | some r => nxt ap lm r (pend ap lm c p0 k) | none => _) = _
  rw [e]
theorem pend_len {ap : α → α} {lm : κ → α → α} {c : List (Rw κ τ)} {p0 : List α} (h : fok c) (h0 : p0.length = (fo c).length) : ∀ k, k ≤ c.length → (pend ap lm c p0 k).length = (fo (c.drop k)).length
  | 0, _ => h0
  | k + 1, hk => by
    have ih := pend_len (ap := ap) (lm := lm) h h0 k (by omega)
    have e : c[k]? = some c[k] := List.getElem?_eq_getElem (by omega)
    rw [pend_at e]
    have hl := push1_len (ar_at h e)
    rw [← fo_at e] at hl
    generalize c[k] = r at e hl
    generalize hp : pend ap lm c p0 k = ps at ih
    cases ps with
    | nil =>
      have ih : 0 = (fo (c.drop k)).length := ih
      have := ar_at h e
      have hpos : 1 ≤ (fo (c.drop k)).length := by omega
      omega
    | cons p ps =>
      have ih : ps.length + 1 = (fo (c.drop k)).length := ih
      cases r with
      | app => show ps.length + 1 + 1 = _; have hl : _ + 2 = _ := hl; omega
      | lam x => show ps.length + 1 = _; have hl : _ + 1 = _ := hl; omega
      | tip t => show ps.length = _; have hl : _ + 0 = _ := hl; omega
theorem fo_ne {c : List (Rw κ τ)} (h : fok c) {k : Nat} {r : Rw κ τ} (e : c[k]? = some r) : 1 ≤ (fo (c.drop k)).length := by
  have hl := push1_len (ar_at h e)
  rw [← fo_at e] at hl
  have := ar_at h e
  omega
/-- depths that wait, with their trees -/
def zd : List Nat → List (Tr κ τ) → Nat
  | p :: ps, t :: ts => max (p + t.dep) (zd ps ts)
  | _, _ => 0
theorem zd_step {c : List (Rw κ τ)} (h : fok c) {k : Nat} {r : Rw κ τ} (e : c[k]? = some r) (p : Nat) (ps : List Nat) :
    max (p + 1) (zd (nxt (· + 1) (fun _ => (· + 1)) r (p :: ps)) (fo (c.drop (k + 1)))) = zd (p :: ps) (fo (c.drop k)) := by
  cases r with
  | app =>
    obtain ⟨f, a, ts, q1, q2⟩ := at_app h e
    rw [q1, q2]
    have := f.dep_pos; have := a.dep_pos
    show max (p + 1) (max (p + 1 + f.dep) (max (p + 1 + a.dep) (zd ps ts))) = max (p + (max f.dep a.dep + 1)) (zd ps ts)
    omega
  | lam x =>
    obtain ⟨b, ts, q1, q2⟩ := at_lam h e
    rw [q1, q2]
    have := b.dep_pos
    show max (p + 1) (max (p + 1 + b.dep) (zd ps ts)) = max (p + (b.dep + 1)) (zd ps ts)
    omega
  | tip t =>
    rw [at_tip e]
    show max (p + 1) (zd ps (fo (c.drop (k + 1)))) = max (p + 1) (zd ps (fo (c.drop (k + 1))))
    rfl
end
/-! typing by rows -/
/-- what waits: the kinds of the bound variables -/
abbrev pa (c : List G2) (k : Nat) : List (List Kd) := pend id (fun k p => k :: p) c [[]] k
/-- the trees behind row k have these kinds -/
def tys : List (List Kd) → List Gt → List (Option Kd)
  | p :: ps, t :: ts => typed t p :: tys ps ts
  | _, _ => []
theorem tys_bad {c : List G2} (h : fok c) (h1 : (fo c).length = 1) : ∀ k, k ≤ c.length → none ∈ tys (pa c k) (fo (c.drop k)) → none ∈ tys (pa c 0) (fo c)
  | 0, _, z => z
  | k + 1, hk, z => by
    refine tys_bad h h1 k (by omega) ?_
    have e : c[k]? = some c[k] := List.getElem?_eq_getElem (by omega)
    have hlen := pend_len (ap := id) (lm := fun k p => k :: p) (p0 := [([] : List Kd)]) h h1.symm k (by omega)
    have hpos := fo_ne h e
    unfold pa at z
    rw [pend_at e] at z
    generalize c[k] = r at e z
    obtain ⟨p, ps, hp⟩ := one_of (show 1 ≤ (pend id (fun k p => k :: p) c [([] : List Kd)] k).length by omega)
    unfold pa
    rw [hp] at z ⊢
    cases r with
    | app =>
      obtain ⟨f, a, ts, q1, q2⟩ := at_app h e
      rw [q1] at z
      rw [q2]
      have z : none ∈ typed f p :: typed a p :: tys ps ts := z
      show none ∈ typed (.app f a) p :: tys ps ts
      rcases List.mem_cons.mp z with z | z
      · exact List.mem_cons.mpr (.inl (by unfold typed; rw [← z]))
      · rcases List.mem_cons.mp z with z | z
        · exact List.mem_cons.mpr (.inl (by
            unfold typed; rw [← z]
            cases typed f p with
            | none => rfl
            | some x => cases x <;> rfl))
        · exact List.mem_cons.mpr (.inr z)
    | lam x =>
      obtain ⟨b, ts, q1, q2⟩ := at_lam h e
      rw [q1] at z
      rw [q2]
      have z : none ∈ typed b (x :: p) :: tys ps ts := z
      show none ∈ typed (.lam x b) p :: tys ps ts
      rcases List.mem_cons.mp z with z | z
      · exact List.mem_cons.mpr (.inl (by unfold typed; rw [← z]))
      · exact List.mem_cons.mpr (.inr z)
    | tip t =>
      rw [at_tip e]
      exact List.mem_cons.mpr (.inr z)
/-- all that waits has this -/
theorem pend_all {κ τ α : Type} {ap : α → α} {lm : κ → α → α} {c : List (Rw κ τ)} {p0 : List α} (R : Nat → α → Prop) (up : ∀ i a, R i a → R (i + 1) a) (h0 : ∀ a ∈ p0, R 0 a) (h1 : ∀ i a, R i a → R (i + 1) (ap a)) (h2 : ∀ (i : Nat) (k : κ) (a : α), Rw.lam k ∈ c → R i a → R (i + 1) (lm k a)) :
    ∀ k, k ≤ c.length → ∀ a ∈ pend ap lm c p0 k, R k a
  | 0, _, a, ha => h0 a ha
  | k + 1, hk, a, ha => by
    have ih := pend_all R up h0 h1 h2 k (by omega)
    have e : c[k]? = some c[k] := List.getElem?_eq_getElem (by omega)
    have hm : c[k] ∈ c := List.getElem_mem (by omega)
    rw [pend_at e] at ha
    generalize c[k] = r at ha hm
    generalize pend ap lm c p0 k = ps at ih ha
    cases ps with
    | nil => cases r <;> cases ha
    | cons p ps =>
      cases r with
      | app =>
        have ha : a ∈ ap p :: ap p :: ps := ha
        rcases List.mem_cons.mp ha with rfl | ha
        · exact h1 k p (ih p List.mem_cons_self)
        · rcases List.mem_cons.mp ha with rfl | ha
          · exact h1 k p (ih p List.mem_cons_self)
          · exact up k a (ih a (List.mem_cons_of_mem _ ha))
      | lam x =>
        have ha : a ∈ lm x p :: ps := ha
        rcases List.mem_cons.mp ha with rfl | ha
        · exact h2 k x p hm (ih p List.mem_cons_self)
        · exact up k a (ih a (List.mem_cons_of_mem _ ha))
      | tip t =>
        have ha : a ∈ ps := ha
        exact up k a (ih a (List.mem_cons_of_mem _ ha))
theorem pa_len {c : List G2} {k : Nat} (hk : k ≤ c.length) {p : List Kd} (hp : p ∈ pa c k) : p.length ≤ k :=
  pend_all (fun i (p : List Kd) => p.length ≤ i) (fun i a h => by omega) (fun a ha => by rw [List.mem_singleton.mp ha]; exact Nat.zero_le _) (fun i a h => by show a.length ≤ _; omega) (fun i k a _ h => by show a.length + 1 ≤ _; omega) k hk p hp
theorem pa_gk {c : List G2} (hc : ∀ r ∈ c, r.gok) {k : Nat} (hk : k ≤ c.length) {p : List Kd} (hp : p ∈ pa c k) : ∀ x ∈ p, GK x :=
  pend_all (fun _ (p : List Kd) => ∀ x ∈ p, GK x) (fun i a h => h) (fun a ha x hx => by rw [List.mem_singleton.mp ha] at hx; cases hx) (fun i a h => h) (fun i k a hm h x hx => by
    rcases List.mem_cons.mp hx with rfl | hx
    · exact hc _ hm
    · exact h x hx) k hk p hp
theorem dep_drop {κ τ : Type} {c : List (Rw κ τ)} (h : fok c) {D : Nat} (h0 : ∀ t ∈ fo c, t.dep ≤ D) : ∀ k, k ≤ c.length → ∀ t ∈ fo (c.drop k), t.dep ≤ D
  | 0, _ => h0
  | k + 1, hk => by
    have ih := dep_drop h h0 k (by omega)
    have e : c[k]? = some c[k] := List.getElem?_eq_getElem (by omega)
    generalize c[k] = r at e
    cases r with
    | app =>
      obtain ⟨f, a, ts, q1, q2⟩ := at_app h e
      rw [q1]
      rw [q2] at ih
      have z : max f.dep a.dep + 1 ≤ D := ih _ List.mem_cons_self
      intro t ht
      rcases List.mem_cons.mp ht with rfl | ht
      · omega
      · rcases List.mem_cons.mp ht with rfl | ht
        · omega
        · exact ih t (List.mem_cons_of_mem _ ht)
    | lam x =>
      obtain ⟨b, ts, q1, q2⟩ := at_lam h e
      rw [q1]
      rw [q2] at ih
      have z : b.dep + 1 ≤ D := ih _ List.mem_cons_self
      intro t ht
      rcases List.mem_cons.mp ht with rfl | ht
      · omega
      · exact ih t (List.mem_cons_of_mem _ ht)
    | tip x =>
      intro t ht
      rw [at_tip e] at ih
      exact ih t (List.mem_cons_of_mem _ ht)
theorem Vc_drop {κ τ : Type} {c : List (Rw κ τ)} (h : fok c) (k : Nat) : Vc (c.drop k) (fo (c.drop k)).length := ⟨fok_drop h k, rfl⟩
theorem gok_drop {c : List G2} (h : fok c) (hc : ∀ r ∈ c, r.gok) (k : Nat) : ∀ t ∈ fo (c.drop k), t.gok := fo_gok (Vc_drop h k) fun r hr => hc r (List.mem_of_mem_drop hr)
theorem typed_sz : ∀ {g : Gt} {ar : List Kd} {k : Kd}, g.gok → (∀ k ∈ ar, k.sz ≤ 100) → typed g ar = some k → k.sz ≤ 101 * g.nodes
  | .app f a, ar, k, h, ha, e => by
    unfold typed at e
    cases e1 : typed f ar with
    | none => rw [e1] at e; cases e
    | some x =>
      cases e2 : typed a ar with
      | none => rw [e1, e2] at e; cases x <;> cases e
      | some z =>
        rw [e1, e2] at e
        have q := typed_sz h.1 ha e1
        cases x with
        | nm w => cases e
        | fr w => cases e
        | to x y =>
          dsimp only at e
          split at e
          · cases e
            have q : x.sz + k.sz + 1 ≤ 101 * f.nodes := q
            show k.sz ≤ 101 * (f.nodes + a.nodes + 1); omega
          · cases e
  | .lam k b, ar, k', h, ha, e => by
    unfold typed at e
    cases e1 : typed b (k :: ar) with
    | none => rw [e1] at e; cases e
    | some x =>
      rw [e1] at e
      cases e
      have q := typed_sz h.2 (fun k' hk' => by
        rcases List.mem_cons.mp hk' with rfl | hk'
        · exact h.1.2
        · exact ha k' hk') e1
      have := h.1.2
      show k.sz + x.sz + 1 ≤ 101 * (b.nodes + 1); omega
  | .tip (.var w k), ar, k', h, ha, e => by
    have e : some k = some k' := e
    cases e
    have := h.2.2
    show k.sz ≤ 101 * 1; omega
  | .tip (.cst w k), ar, k', h, ha, e => by
    have e : some k = some k' := e
    cases e
    have := h.2.2
    show k.sz ≤ 101 * 1; omega
  | .tip (.bnd i), ar, k', h, ha, e => by
    have e : ar[i]? = some k' := e
    have := ha k' (List.mem_of_getElem? e)
    show k'.sz ≤ 101 * 1; omega
theorem typed_scope : ∀ {g : Gt} {ar : List Kd} {k : Kd}, typed g ar = some k → inScope g ar.length = true
  | .app f a, ar, k, e => by
    unfold typed at e
    cases e1 : typed f ar with
    | none => rw [e1] at e; cases e
    | some x =>
      cases e2 : typed a ar with
      | none => rw [e1, e2] at e; cases x <;> cases e
      | some z =>
        show (inScope f ar.length && inScope a ar.length) = true
        rw [typed_scope e1, typed_scope e2]; rfl
  | .lam k b, ar, k', e => by
    unfold typed at e
    cases e1 : typed b (k :: ar) with
    | none => rw [e1] at e; cases e
    | some x => exact typed_scope (g := b) (ar := k :: ar) e1
  | .tip (.var w k), ar, k', e => rfl
  | .tip (.cst w k), ar, k', e => rfl
  | .tip (.bnd i), ar, k', e => by
    have e : ar[i]? = some k' := e
    exact decide_eq_true (List.getElem?_eq_some_iff.mp e).1
/-- what the law awaits is what the program answers -/
theorem wf_due (g : Gt) : wf g = if g.nodes ≤ 400 ∧ g.dep ≤ 50 then typed g [] else none := by
  unfold wf
  by_cases h : g.nodes ≤ 400 ∧ g.dep ≤ 50
  · rw [if_pos h]
    by_cases hs : inScope g 0 = true
    · rw [if_pos ⟨hs, h⟩]
    · rw [if_neg (fun z => hs z.1)]
      cases e : typed g [] with
      | none => rfl
      | some k => exact absurd (typed_scope e) hs
  · rw [if_neg h, if_neg (fun z => h z.2)]
theorem Kd.short : ∀ k : Kd, k.ok → k.d.leavesShort 8 = true
  | .nm w, h => by
    have c : Cok w := h.elim (fun h => (name_cok h).1) (fun h => by rw [h]; exact cokBool)
    simp only [Kd.d, PyData.leavesShort, PyData.leavesShortAll, Bool.and_true, Bool.and_eq_true, List.all_eq_true, decide_eq_true_eq, S_get]
    exact ⟨fun c hc => Nat.lt_trans (cokNamed c hc) (by decide), fun x hx => Nat.lt_trans (c x hx) (by decide)⟩
  | .fr w, h => by
    simp only [Kd.d, PyData.leavesShort, PyData.leavesShortAll, Bool.and_true, Bool.and_eq_true, List.all_eq_true, decide_eq_true_eq, S_get]
    exact ⟨fun c hc => Nat.lt_trans (cokFree c hc) (by decide), fun x hx => Nat.lt_trans ((name_cok h).1 x hx) (by decide)⟩
  | .to a b, h => by
    simp only [Kd.d, PyData.leavesShort, PyData.leavesShortAll, Bool.and_true, Bool.and_eq_true, List.all_eq_true, decide_eq_true_eq, S_get, a.short h.1, b.short h.2, and_self, and_true]
    exact fun c hc => Nat.lt_trans (cokTo c hc) (by decide)
theorem S_size (w : List Nat) : (S w).cps.size = w.length := by simp [SX.S]
theorem Kd.weight : ∀ k : Kd, k.ok → k.d.weight ≤ 30 * k.sz
  | .nm w, h => by
    have c : w.length ≤ 16 := h.elim (fun h => (name_cok h).2) (fun h => by rw [h]; decide)
    simp only [Kd.d, PyData.weight, PyData.weightAll, S_size, Kd.sz]
    show 5 + 1 + (w.length + 1 + 0) ≤ 30 * 1; omega
  | .fr w, h => by
    have c : w.length ≤ 16 := (name_cok h).2
    simp only [Kd.d, PyData.weight, PyData.weightAll, S_size, Kd.sz]
    show 4 + 1 + (w.length + 1 + 0) ≤ 30 * 1; omega
  | .to a b, h => by
    have := a.weight h.1; have := b.weight h.2
    simp only [Kd.d, PyData.weight, PyData.weightAll, S_size, Kd.sz]
    show 2 + 1 + (a.d.weight + 1 + (b.d.weight + 1 + 0)) ≤ 30 * (a.sz + b.sz + 1); omega
theorem Kd.show_ : ∀ k : Kd, k.d.showable = true
  | .nm w => by simp [Kd.d, PyData.showable, PyData.showableAll]
  | .fr w => by simp [Kd.d, PyData.showable, PyData.showableAll]
  | .to a b => by simp [Kd.d, PyData.showable, PyData.showableAll, a.show_, b.show_]
theorem Kd.shown {k : Kd} (h : k.ok) (z : k.sz ≤ 50000) : k.d.shown.length ≤ 16777216 := by
  have h1 := PyData.shown_le 8 (Nat.le_refl _) k.d (k.short h)
  have h2 := k.weight h
  have h3 : (8 + 2) * k.d.weight ≤ (8 + 2) * (30 * k.sz) := Nat.mul_le_mul_left _ h2
  omega
theorem dep_nodes {κ τ : Type} : ∀ t : Tr κ τ, t.dep ≤ t.nodes
  | .app f a => by
    have := dep_nodes f; have := dep_nodes a; have := f.nodes_pos; have := a.nodes_pos
    show max f.dep a.dep + 1 ≤ f.nodes + a.nodes + 1; omega
  | .lam k b => by have := dep_nodes b; show b.dep + 1 ≤ b.nodes + 1; omega
  | .tip _ => Nat.le_refl _
end K02

/-! The plain law of k02: a tree with a bad row is bad. -/
namespace K02
open PySem L2 TL SX
/-- all is known of a row, at any depth -/
def RowK : PRow → Prop
  | .app => True
  | .lam k => ∃ b, KF k b
  | .tip t => ∀ l, l ≤ 100000 → ∃ b, LF t.d l b ∧ (b = true → ∀ s r, t.d = .tuple (.str (S s) :: r) → s ≠ wAPP ∧ s ≠ wLAM)
def RowB : PRow → Prop
  | .app => False
  | .lam k => KF k false
  | .tip t => ∀ l, l ≤ 100000 → LF t.d l false
theorem RowB.k {r : PRow} (h : RowB r) : RowK r := by
  cases r with
  | app => cases h
  | lam k => exact ⟨false, h⟩
  | tip t => exact fun l hl => ⟨false, h l hl, fun z => by cases z⟩
def AKn (t : PTr) : Prop := ∀ l, l + t.dep ≤ 100000 → ∃ b, AK t l b
def AKb (t : PTr) : Prop := ∀ l, l + t.dep ≤ 100000 → AK t l false
theorem bad_fo : ∀ {c : List PRow}, fok c → (∀ r ∈ c, RowK r) → (∀ t ∈ fo c, AKn t ∧ t.dep ≤ c.length) ∧ ((∃ r ∈ c, RowB r) → ∃ t ∈ fo c, AKb t)
  | [], _, _ => ⟨fun t h => (by cases h), fun ⟨r, h, _⟩ => by cases h⟩
  | r :: c, hf, hk => by
    obtain ⟨h1, h2⟩ := bad_fo hf.2 fun r hr => hk r (List.mem_cons_of_mem _ hr)
    have hr := hk r List.mem_cons_self
    have up : ∀ {x : PTr} {ts : List PTr}, (∀ t ∈ ts, AKn t ∧ t.dep ≤ c.length) → AKn x ∧ x.dep ≤ c.length + 1 → ∀ t ∈ x :: ts, AKn t ∧ t.dep ≤ c.length + 1 := fun {x ts} a b t ht => by
      rcases List.mem_cons.mp ht with rfl | ht
      · exact b
      · exact ⟨(a t ht).1, by have := (a t ht).2; omega⟩
    show (∀ t ∈ push1 r (fo c), AKn t ∧ t.dep ≤ c.length + 1) ∧ _
    have hb : (∃ r' ∈ r :: c, RowB r') → (RowB r ∨ ∃ t ∈ fo c, AKb t) := fun ⟨r', hr', hb⟩ => by
      rcases List.mem_cons.mp hr' with rfl | hr'
      · exact .inl hb
      · exact .inr (h2 ⟨r', hr', hb⟩)
    cases r with
    | app =>
      obtain ⟨f, a, ts, e⟩ := two_of (show 2 ≤ (fo c).length from hf.1)
      show (∀ t ∈ push1 .app (fo c), AKn t ∧ t.dep ≤ c.length + 1) ∧ (_ → ∃ t ∈ push1 .app (fo c), AKb t)
      rw [e] at h1 hb ⊢
      have hf' := h1 f (by simp)
      have ha' := h1 a (by simp)
      refine ⟨up (fun t ht => h1 t (by simp [ht])) ⟨fun l hl => ?_, ?_⟩, fun z => ?_⟩
      · have hl : l + (max f.dep a.dep + 1) ≤ 100000 := hl
        obtain ⟨b, hb1⟩ := hf'.1 l (by omega)
        obtain ⟨d, hd1⟩ := ha'.1 l (by omega)
        exact ⟨_, .app hb1 hd1⟩
      · have := hf'.2
        have := ha'.2
        show max f.dep a.dep + 1 ≤ _
        omega
      · rcases hb z with z | ⟨t, ht, hh⟩
        · cases z
        rcases List.mem_cons.mp ht with rfl | ht
        · refine ⟨.app t a, List.mem_cons_self, fun l hl => ?_⟩
          have hl : l + (max t.dep a.dep + 1) ≤ 100000 := hl
          obtain ⟨d, hd1⟩ := ha'.1 l (by omega)
          exact AK.app (hh l (by omega)) hd1
        · rcases List.mem_cons.mp ht with rfl | ht
          · refine ⟨.app f t, List.mem_cons_self, fun l hl => ?_⟩
            have hl : l + (max f.dep t.dep + 1) ≤ 100000 := hl
            obtain ⟨d, hd1⟩ := hf'.1 l (by omega)
            have := AK.app hd1 (hh l (by omega))
            rwa [Bool.and_false] at this
          · exact ⟨t, List.mem_cons_of_mem _ ht, hh⟩
    | lam k =>
      obtain ⟨x, ts, e⟩ := one_of (show 1 ≤ (fo c).length from hf.1)
      show (∀ t ∈ push1 (.lam k) (fo c), AKn t ∧ t.dep ≤ c.length + 1) ∧ (_ → ∃ t ∈ push1 (.lam k) (fo c), AKb t)
      rw [e] at h1 hb ⊢
      have hx := h1 x (by simp)
      refine ⟨up (fun t ht => h1 t (by simp [ht])) ⟨fun l hl => ?_, ?_⟩, fun z => ?_⟩
      · have hl : l + (x.dep + 1) ≤ 100000 := hl
        obtain ⟨b, hb1⟩ := hr
        obtain ⟨d, hd1⟩ := hx.1 (l + 1) (by omega)
        exact ⟨_, .lam hb1 hd1⟩
      · have := hx.2
        show x.dep + 1 ≤ _
        omega
      · rcases hb z with z | ⟨t, ht, hh⟩
        · refine ⟨.lam k x, List.mem_cons_self, fun l hl => ?_⟩
          have hl : l + (x.dep + 1) ≤ 100000 := hl
          obtain ⟨d, hd1⟩ := hx.1 (l + 1) (by omega)
          exact AK.lam z hd1
        · rcases List.mem_cons.mp ht with rfl | ht
          · refine ⟨.lam k t, List.mem_cons_self, fun l hl => ?_⟩
            have hl : l + (t.dep + 1) ≤ 100000 := hl
            obtain ⟨b, hb1⟩ := hr
            have := AK.lam hb1 (hh (l + 1) (by omega))
            rwa [Bool.and_false] at this
          · exact ⟨t, List.mem_cons_of_mem _ ht, hh⟩
    | tip d =>
      refine ⟨up h1 ⟨fun l hl => ?_, ?_⟩, fun z => ?_⟩
      · have hl : l + 1 ≤ 100000 := hl
        obtain ⟨b, hb1, hb2⟩ := hr l (by omega)
        exact ⟨b, .tip hb1 hb2⟩
      · show 1 ≤ c.length + 1
        omega
      · rcases hb z with z | ⟨t, ht, hh⟩
        · refine ⟨.tip d, List.mem_cons_self, fun l hl => ?_⟩
          have hl : l + 1 ≤ 100000 := hl
          exact .tip (z l (by omega)) fun z => by cases z
        · exact ⟨t, List.mem_cons_of_mem _ ht, hh⟩
/-- a code of one tree with a bad row, asked at its root -/
theorem bad_tree {c : List PRow} {t : PTr} (hf : fok c) (e : fo c = [t]) (hk : ∀ r ∈ c, RowK r) (hb : ∃ r ∈ c, RowB r) (hl : c.length ≤ 5000) : AK t 0 false := by
  obtain ⟨h1, h2⟩ := bad_fo hf hk
  obtain ⟨t', ht', hh⟩ := h2 hb
  rw [e] at ht'
  rw [List.mem_singleton.mp ht'] at hh
  have := (h1 t (by rw [e]; exact List.mem_cons_self)).2
  exact hh 0 (by omega)
/-- good rows are known -/
theorem upR_k {r : G2} (h : r.gok) : RowK (upR r) := by
  cases r with
  | app => trivial
  | lam k => exact ⟨true, GK.kf h⟩
  | tip l =>
    intro n _
    refine ⟨_, Lf.lf h n, fun _ s r e => ?_⟩
    obtain ⟨s', r', e', a, b, _⟩ := lf_tip l
    have e : l.d = .tuple (.str (S s) :: r) := e
    rw [e'] at e
    simp only [PyData.tuple.injEq, List.cons.injEq, PyData.str.injEq] at e
    rw [← SX.S_inj e.1]
    exact ⟨a, b⟩
/-- a code with arms is one whose leaves hold it -/
theorem tip_in {κ τ : Type} {c : List (Rw κ τ)} (h : Vc c 1) : ∃ t, Rw.tip t ∈ c := by
  have : ∀ c : List (Rw κ τ), (∀ t, Rw.tip t ∉ c) → fok c → c = [] := by
    intro c
    induction c with
    | nil => intro _ _; rfl
    | cons r c ih =>
      intro h hf
      have e := ih (fun t ht => h t (List.mem_cons_of_mem _ ht)) hf.2
      subst e
      cases r with
      | app => exact absurd hf.1 (by show ¬ 2 ≤ 0; omega)
      | lam k => exact absurd hf.1 (by show ¬ 1 ≤ 0; omega)
      | tip t => exact absurd List.mem_cons_self (h t)
  apply Classical.byContradiction
  intro z
  have e := this c (fun t ht => z ⟨t, ht⟩) h.1
  subst e
  cases h.2
theorem Vc.one {κ τ : Type} {c : List (Rw κ τ)} (h : Vc c 1) : ∃ t, fo c = [t] := by
  obtain ⟨_, h2⟩ := h
  match hh : fo c, h2 with
  | [t], _ => exact ⟨t, rfl⟩
theorem Vc.lams {κ τ : Type} {c : List (Rw κ τ)} (h : Vc c 1) (k : κ) : ∀ n, Vc (List.replicate n (.lam k) ++ c) 1
  | 0 => h
  | n + 1 => Vc.lam (n := 0) (h.lams k n)
end K02

/-! The plain law of k01: typed codes; abstracting, instantiating and putting, on trees and on codes. -/
namespace K01
open PySem L2 TL SX K02
/-- a code whose trees have these kinds, each under these arounds -/
inductive Ty2 : List Gt → List (Kd × List Kd) → Prop
  | nil : Ty2 [] []
  | cons {t : Gt} {k : Kd} {ar : List Kd} {ts : List Gt} {ps : List (Kd × List Kd)} (h : typed t ar = some k) (j : Ty2 ts ps) : Ty2 (t :: ts) ((k, ar) :: ps)
def TF (c : List G2) (ps : List (Kd × List Kd)) : Prop := fok c ∧ Ty2 (fo c) ps
theorem Ty2.len : ∀ {ts : List Gt} {ps : List (Kd × List Kd)}, Ty2 ts ps → ts.length = ps.length
  | _, _, .nil => rfl
  | _, _, .cons _ j => by rw [List.length_cons, List.length_cons, j.len]
theorem TF.vc {c : List G2} {ps : List (Kd × List Kd)} (h : TF c ps) : Vc c ps.length := ⟨h.1, h.2.len⟩
theorem TF.nil : TF [] [] := ⟨trivial, .nil⟩
theorem TF.app {c : List G2} {o k : Kd} {ar : List Kd} {ps : List (Kd × List Kd)} (h : TF c ((.to o k, ar) :: (o, ar) :: ps)) : TF (.app :: c) ((k, ar) :: ps) := by
  obtain ⟨h1, h2⟩ := h
  generalize hfo : fo c = ts at h2
  cases h2 with
  | cons t1 j =>
    cases j with
    | cons t2 j =>
      refine ⟨⟨by rw [hfo]; show 2 ≤ _ + 1 + 1; omega, h1⟩, ?_⟩
      show Ty2 (push1 .app (fo c)) _
      rw [hfo]
      exact .cons (by simp [typed, t1, t2]) j
theorem TF.lam {c : List G2} {k b : Kd} {ar : List Kd} {ps : List (Kd × List Kd)} (h : TF c ((b, k :: ar) :: ps)) : TF (.lam k :: c) ((.to k b, ar) :: ps) := by
  obtain ⟨h1, h2⟩ := h
  generalize hfo : fo c = ts at h2
  cases h2 with
  | cons t1 j =>
    refine ⟨⟨by rw [hfo]; show 1 ≤ _ + 1; omega, h1⟩, ?_⟩
    show Ty2 (push1 (.lam k) (fo c)) _
    rw [hfo]
    exact .cons (by simp [typed, t1]) j
theorem TF.tip {c : List G2} {l : Lf} {k : Kd} {ar : List Kd} {ps : List (Kd × List Kd)} (h : TF c ps) (e : typed (.tip l) ar = some k) : TF (.tip l :: c) ((k, ar) :: ps) :=
  ⟨⟨Nat.zero_le _, h.1⟩, .cons e h.2⟩
/-- a prefix that wants these trees for one tree of kind k0 -/
def PT (k0 : Kd) (c : List G2) (ps : List (Kd × List Kd)) : Prop := ∀ c2, TF c2 ps → TF (c ++ c2) [(k0, [])]
section
variable {k0 o k b : Kd} {c : List G2} {ar : List Kd} {ps : List (Kd × List Kd)} {l : Lf}
theorem PT.nil : PT k0 [] [(k0, [])] := fun c2 h => h
theorem PT.app (h : PT k0 c ((k, ar) :: ps)) : PT k0 (c ++ [.app]) ((.to o k, ar) :: (o, ar) :: ps) := fun c2 h2 => by
  rw [List.append_assoc]; exact h _ h2.app
theorem PT.lam (h : PT k0 c ((.to k b, ar) :: ps)) : PT k0 (c ++ [.lam k]) ((b, k :: ar) :: ps) := fun c2 h2 => by
  rw [List.append_assoc]; exact h _ h2.lam
theorem PT.tip (h : PT k0 c ((k, ar) :: ps)) (e : typed (.tip l) ar = some k) : PT k0 (c ++ [.tip l]) ps := fun c2 h2 => by
  rw [List.append_assoc]; exact h _ (h2.tip e)
theorem PT.done (h : PT k0 c []) : TF c [(k0, [])] := by have := h [] TF.nil; rwa [List.append_nil] at this
theorem TF.one (h : TF c [(k, ar)]) : ∃ t, fok c ∧ fo c = [t] ∧ typed t ar = some k := by
  obtain ⟨h1, h2⟩ := h
  generalize hfo : fo c = ts at h2
  cases h2 with
  | cons t1 j => cases j; exact ⟨_, h1, rfl, t1⟩
end
/-! ### on trees -/
def isV (w : List Nat) (k : Kd) : Lf → Bool
  | .var w' k' => decide (w' = w ∧ k' = k)
  | _ => false
def isB (l : Nat) : Lf → Bool
  | .bnd i => decide (i = l)
  | _ => false
/-- each leaf by what stands for it at its level -/
def subT (g : Nat → Lf → Gt) : Gt → Nat → Gt
  | .app f a, l => .app (subT g f l) (subT g a l)
  | .lam j b, l => .lam j (subT g b (l + 1))
  | .tip x, l => g l x
/-- the same on codes; todo: the levels of the trees to come -/
def subC (f : Nat → Lf → List G2) : List G2 → List Nat → List G2
  | [], _ => []
  | .app :: c, todo => .app :: subC f c (todo.headD 0 :: todo.headD 0 :: todo.tail)
  | .lam k :: c, todo => .lam k :: subC f c ((todo.headD 0 + 1) :: todo.tail)
  | .tip x :: c, todo => f (todo.headD 0) x ++ subC f c todo.tail
/-- the levels of the rows -/
def lvC : List G2 → List Nat → List Nat
  | [], _ => []
  | .app :: c, todo => todo.headD 0 :: lvC c (todo.headD 0 :: todo.headD 0 :: todo.tail)
  | .lam _ :: c, todo => todo.headD 0 :: lvC c ((todo.headD 0 + 1) :: todo.tail)
  | .tip _ :: c, todo => todo.headD 0 :: lvC c todo.tail
/-- one row's part in subC -/
def rowS (f : Nat → Lf → List G2) : G2 → Nat → List G2
  | .tip x, l => f l x
  | r, _ => [r]
theorem lvC_len : ∀ (c : List G2) (todo : List Nat), (lvC c todo).length = c.length
  | [], _ => rfl
  | .app :: c, todo => by show (lvC c _).length + 1 = _; rw [lvC_len c]; rfl
  | .lam _ :: c, todo => by show (lvC c _).length + 1 = _; rw [lvC_len c]; rfl
  | .tip _ :: c, todo => by show (lvC c _).length + 1 = _; rw [lvC_len c]; rfl
theorem subC_rows (f : Nat → Lf → List G2) : ∀ (c : List G2) (todo : List Nat), subC f c todo = (List.zipWith (rowS f) c (lvC c todo)).flatten
  | [], _ => rfl
  | .app :: c, todo => by show Rw.app :: subC f c _ = _; rw [subC_rows f c]; rfl
  | .lam k :: c, todo => by show Rw.lam k :: subC f c _ = _; rw [subC_rows f c]; rfl
  | .tip x :: c, todo => by show f _ x ++ subC f c _ = _; rw [subC_rows f c]; rfl
theorem push1_app {κ τ : Type} {r : Rw κ τ} {ts us : List (Tr κ τ)} (h : r.ar ≤ ts.length) : push1 r (ts ++ us) = push1 r ts ++ us := by
  cases r with
  | app =>
    match ts, h with
    | f :: a :: ts, _ => rfl
    | [_], h => exact absurd h (by show ¬ 2 ≤ 1; omega)
    | [], h => exact absurd h (by show ¬ 2 ≤ 0; omega)
  | lam k =>
    match ts, h with
    | b :: ts, _ => rfl
    | [], h => exact absurd h (by show ¬ 1 ≤ 0; omega)
  | tip t => rfl
theorem fo_append {κ τ : Type} : ∀ {c d : List (Rw κ τ)}, fok c → fo (c ++ d) = fo c ++ fo d
  | [], d, _ => rfl
  | r :: c, d, h => by
    show push1 r (fo (c ++ d)) = push1 r (fo c) ++ fo d
    rw [fo_append h.2, push1_app h.1]
theorem fok_append {κ τ : Type} {c d : List (Rw κ τ)} (h : fok c) (k : fok d) : fok (c ++ d) := (Vc.append (⟨h, rfl⟩ : Vc c _) (⟨k, rfl⟩ : Vc d _)).1
/-- what stands for a leaf is a code of one tree -/
theorem fo_sub {f : Nat → Lf → List G2} {g : Nat → Lf → Gt} (hf : ∀ l x, fok (f l x) ∧ fo (f l x) = [g l x]) : ∀ {c : List G2} {todo : List Nat}, fok c → (fo c).length = todo.length → fok (subC f c todo) ∧ fo (subC f c todo) = List.zipWith (subT g) (fo c) todo
  | [], todo, _, _ => ⟨trivial, by simp [subC, fo]⟩
  | .tip x :: c, todo, h, hl => by
    have hl : (fo c).length + 1 = todo.length := hl
    match todo, hl with
    | l :: todo, hl =>
      have hl : (fo c).length = todo.length := by rw [List.length_cons] at hl; omega
      obtain ⟨i1, i2⟩ := fo_sub hf (todo := todo) h.2 hl
      obtain ⟨a1, a2⟩ := hf l x
      refine ⟨fok_append a1 i1, ?_⟩
      show fo (f l x ++ subC f c todo) = List.zipWith (subT g) (.tip x :: fo c) (l :: todo)
      rw [fo_append a1, a2, i2]; rfl
  | .lam k :: c, todo, h, hl => by
    obtain ⟨b, ts, e⟩ := one_of (show 1 ≤ (fo c).length from h.1)
    have e2 : fo (.lam k :: c) = .lam k b :: ts := by show push1 _ (fo c) = _; rw [e]; rfl
    rw [e2] at hl
    match todo, hl with
    | l :: todo, hl =>
      have hl : (fo c).length = ((l + 1) :: todo).length := by rw [e]; exact hl
      obtain ⟨i1, i2⟩ := fo_sub hf (todo := (l + 1) :: todo) h.2 hl
      rw [e] at i2
      have i2 : fo (subC f c ((l + 1) :: todo)) = subT g b (l + 1) :: List.zipWith (subT g) ts todo := i2
      refine ⟨⟨by show 1 ≤ (fo (subC f c ((l + 1) :: todo))).length; rw [i2, List.length_cons]; omega, i1⟩, ?_⟩
      show push1 _ (fo (subC f c ((l + 1) :: todo))) = _
      rw [i2, e2]; rfl
  | .app :: c, todo, h, hl => by
    obtain ⟨x, y, ts, e⟩ := two_of (show 2 ≤ (fo c).length from h.1)
    have e2 : fo (.app :: c) = .app x y :: ts := by show push1 _ (fo c) = _; rw [e]; rfl
    rw [e2] at hl
    match todo, hl with
    | l :: todo, hl =>
      have hl : (fo c).length = (l :: l :: todo).length := by rw [e]; simp only [List.length_cons] at hl ⊢; omega
      obtain ⟨i1, i2⟩ := fo_sub hf (todo := l :: l :: todo) h.2 hl
      rw [e] at i2
      have i2 : fo (subC f c (l :: l :: todo)) = subT g x l :: subT g y l :: List.zipWith (subT g) ts todo := i2
      refine ⟨⟨by show 2 ≤ (fo (subC f c (l :: l :: todo))).length; rw [i2, List.length_cons, List.length_cons]; omega, i1⟩, ?_⟩
      show push1 _ (fo (subC f c (l :: l :: todo))) = _
      rw [i2, e2]; rfl
theorem fo_sub1 {f : Nat → Lf → List G2} {g : Nat → Lf → Gt} (hf : ∀ l x, fok (f l x) ∧ fo (f l x) = [g l x]) {c : List G2} {t : Gt} (h : fok c) (e : fo c = [t]) : fok (subC f c [0]) ∧ fo (subC f c [0]) = [subT g t 0] := by
  obtain ⟨a, b⟩ := fo_sub hf (todo := [0]) h (by rw [e]; rfl)
  rw [e] at b
  exact ⟨a, b⟩
/-- as many rows as nodes -/
theorem fo_nodes {κ τ : Type} : ∀ {c : List (Rw κ τ)}, fok c → ((fo c).map Tr.nodes).sum = c.length
  | [], _ => rfl
  | .tip x :: c, h => by
    show 1 + ((fo c).map Tr.nodes).sum = c.length + 1
    rw [fo_nodes h.2]; omega
  | .lam k :: c, h => by
    have ih := fo_nodes h.2
    obtain ⟨b, ts, e⟩ := one_of (show 1 ≤ (fo c).length from h.1)
    show ((push1 _ (fo c)).map Tr.nodes).sum = c.length + 1
    rw [e] at ih ⊢
    show b.nodes + 1 + (ts.map Tr.nodes).sum = _
    have ih : b.nodes + (ts.map Tr.nodes).sum = c.length := ih
    omega
  | .app :: c, h => by
    have ih := fo_nodes h.2
    obtain ⟨x, y, ts, e⟩ := two_of (show 2 ≤ (fo c).length from h.1)
    show ((push1 _ (fo c)).map Tr.nodes).sum = c.length + 1
    rw [e] at ih ⊢
    show x.nodes + y.nodes + 1 + (ts.map Tr.nodes).sum = _
    have ih : x.nodes + (y.nodes + (ts.map Tr.nodes).sum) = c.length := ih
    omega
theorem fo_nodes1 {κ τ : Type} {c : List (Rw κ τ)} {t : Tr κ τ} (h : fok c) (e : fo c = [t]) : t.nodes = c.length := by
  have := fo_nodes h
  rw [e] at this
  have this : t.nodes + 0 = c.length := this
  omega
/-! ### the four -/
def absL (w : List Nat) (k : Kd) (l : Nat) (x : Lf) : Gt := if isV w k x then .tip (.bnd l) else .tip x
def insL (v : Gt) (l : Nat) (x : Lf) : Gt := if isB l x then v else .tip x
abbrev Tb (α : Type) := List Nat → Option α
def putL (tb : Tb (Kd × Gt)) (_ : Nat) : Lf → Gt
  | .var w k => match tb w with
    | some (k', v) => if k' = k then v else .tip (.var w k)
    | none => .tip (.var w k)
  | x => .tip x
def absC (w : List Nat) (k : Kd) (l : Nat) (x : Lf) : List G2 := if isV w k x then [.tip (.bnd l)] else [.tip x]
def insC (v : List G2) (l : Nat) (x : Lf) : List G2 := if isB l x then v else [.tip x]
def putC (tb : Tb (Kd × List G2)) (_ : Nat) : Lf → List G2
  | .var w k => match tb w with
    | some (k', v) => if k' = k then v else [.tip (.var w k)]
    | none => [.tip (.var w k)]
  | x => [.tip x]
theorem one_tip (x : Lf) : fok ([.tip x] : List G2) ∧ fo ([.tip x] : List G2) = [.tip x] := ⟨⟨Nat.zero_le _, trivial⟩, rfl⟩
theorem absC_ok (w : List Nat) (k : Kd) (l : Nat) (x : Lf) : fok (absC w k l x) ∧ fo (absC w k l x) = [absL w k l x] := by
  unfold absC absL
  cases isV w k x <;> exact one_tip _
theorem insC_ok {v : List G2} {t : Gt} (h : fok v) (e : fo v = [t]) (l : Nat) (x : Lf) : fok (insC v l x) ∧ fo (insC v l x) = [insL t l x] := by
  unfold insC insL
  cases isB l x
  · exact one_tip _
  · exact ⟨h, e⟩
theorem putC_ok {tb : Tb (Kd × List G2)} {tt : Tb (Kd × Gt)} (h : ∀ w, (tb w = none ∧ tt w = none) ∨ ∃ k c t, tb w = some (k, c) ∧ tt w = some (k, t) ∧ fok c ∧ fo c = [t]) (l : Nat) (x : Lf) : fok (putC tb l x) ∧ fo (putC tb l x) = [putL tt l x] := by
  cases x with
  | var w k =>
    rcases h w with ⟨a, b⟩ | ⟨k', c, t, a, b, d, e⟩
    · simp only [putC, putL, a, b]; exact one_tip _
    · simp only [putC, putL, a, b]
      by_cases z : k' = k
      · rw [if_pos z, if_pos z]; exact ⟨d, e⟩
      · rw [if_neg z, if_neg z]; exact one_tip _
  | cst w k => exact one_tip _
  | bnd i => exact one_tip _
/-! ### instantiate undoes abstract -/
theorem isV_eq {w : List Nat} {k : Kd} {x : Lf} (h : isV w k x = true) : x = .var w k := by
  cases x with
  | var w' k' => obtain ⟨a, b⟩ := of_decide_eq_true h; rw [a, b]
  | cst _ _ => cases h
  | bnd _ => cases h
theorem isB_eq {l : Nat} {x : Lf} (h : isB l x = true) : x = .bnd l := by
  cases x with
  | bnd i => have := of_decide_eq_true h; rw [this]
  | cst _ _ => cases h
  | var _ _ => cases h
theorem ins_abs (w : List Nat) (k : Kd) : ∀ (t : Gt) (l : Nat), inScope t l = true → subT (insL (.tip (.var w k))) (subT (absL w k) t l) l = t
  | .app f a, l, h => by
    have h : inScope f l = true ∧ inScope a l = true := by simpa [inScope] using h
    show Tr.app _ _ = _
    rw [ins_abs w k f l h.1, ins_abs w k a l h.2]
  | .lam j b, l, h => by
    show Tr.lam j _ = _
    rw [ins_abs w k b (l + 1) h]
  | .tip x, l, h => by
    show subT _ (absL w k l x) l = _
    unfold absL
    cases hv : isV w k x with
    | true =>
      rw [isV_eq hv]
      show insL _ l (.bnd l) = _
      unfold insL
      rw [if_pos (show isB l (.bnd l) = true from decide_eq_true rfl)]
    | false =>
      show insL _ l x = _
      unfold insL
      rw [if_neg (fun z => by
        rw [isB_eq z] at h
        have : decide (l < l) = true := h
        have := of_decide_eq_true this
        omega)]
/-- a name that does not occur -/
def notIn (w : List Nat) : Gt → Prop
  | .app f a => notIn w f ∧ notIn w a
  | .lam _ b => notIn w b
  | .tip (.var v _) => v ≠ w
  | .tip _ => True
theorem abs_ins (w v : List Nat) (k : Kd) : ∀ (t : Gt) (l : Nat), inScope t l = true → notIn v t → subT (absL v k) (subT (insL (.tip (.var v k))) (subT (absL w k) t l) l) l = subT (absL w k) t l
  | .app f a, l, h, n => by
    have h : inScope f l = true ∧ inScope a l = true := by simpa [inScope] using h
    show Tr.app _ _ = Tr.app _ _
    rw [abs_ins w v k f l h.1 n.1, abs_ins w v k a l h.2 n.2]
  | .lam j b, l, h, n => by
    show Tr.lam j _ = Tr.lam j _
    rw [abs_ins w v k b (l + 1) h n]
  | .tip x, l, h, n => by
    show subT _ (subT _ (absL w k l x) l) l = absL w k l x
    unfold absL
    cases hv : isV w k x with
    | true =>
      show subT (absL v k) (insL _ l (.bnd l)) l = _
      unfold insL
      rw [if_pos (show isB l (.bnd l) = true from decide_eq_true rfl)]
      show absL v k l (.var v k) = _
      unfold absL
      rw [if_pos (show isV v k (.var v k) = true from decide_eq_true ⟨rfl, rfl⟩)]
      rfl
    | false =>
      show subT (absL v k) (insL _ l x) l = _
      unfold insL
      rw [if_neg (fun z => by
        rw [isB_eq z] at h
        have : decide (l < l) = true := h
        have := of_decide_eq_true this
        omega)]
      show absL v k l x = _
      unfold absL
      rw [if_neg (fun z => by
        rw [isV_eq z] at n
        exact n rfl)]
      rfl
end K01

/-! The plain law of k01: the texts of trees are short. -/
namespace K01
open PySem L2 TL SX K02
/-- small indexes -/
def smB : Gt → Prop
  | .app f a => smB f ∧ smB a
  | .lam _ b => smB b
  | .tip (.bnd i) => i ≤ 1000
  | .tip _ => True
theorem smB_scope : ∀ (g : Gt) (l : Nat), inScope g l = true → l + g.dep ≤ 1000 → smB g
  | .app f a, l, h, z => by
    have h : inScope f l = true ∧ inScope a l = true := by simpa [inScope] using h
    have z : l + (max f.dep a.dep + 1) ≤ 1000 := z
    exact ⟨smB_scope f l h.1 (by omega), smB_scope a l h.2 (by omega)⟩
  | .lam j b, l, h, z => smB_scope b (l + 1) h (by have z : l + (b.dep + 1) ≤ 1000 := z; omega)
  | .tip (.bnd i), l, h, z => by
    have h : decide (i < l) = true := h
    have := of_decide_eq_true h
    show i ≤ 1000
    omega
  | .tip (.var _ _), _, _, _ => trivial
  | .tip (.cst _ _), _, _, _ => trivial
theorem smB_sub {f : Nat → Lf → Gt} (D : Nat) (hf : ∀ l x, l ≤ D → smB (.tip x) → smB (f l x)) : ∀ (g : Gt) (l : Nat), smB g → l + g.dep ≤ D + 1 → smB (subT f g l)
  | .app a b, l, h, z => by
    have z : l + (max a.dep b.dep + 1) ≤ D + 1 := z
    exact ⟨smB_sub D hf a l h.1 (by omega), smB_sub D hf b l h.2 (by omega)⟩
  | .lam j b, l, h, z => smB_sub D hf b (l + 1) h (by have z : l + (b.dep + 1) ≤ D + 1 := z; omega)
  | .tip x, l, h, z => hf l x (by have z : l + 1 ≤ D + 1 := z; omega) h
theorem lvs {w : List Nat} (h : Cok w) : (PyData.str (S w)).leavesShort 13 = true := by
  simp only [PyData.leavesShort, S_get, List.all_eq_true, decide_eq_true_eq]
  exact fun c hc => Nat.lt_trans (h c hc) (by decide)
theorem ls2 (a b : PyData) (h : a.leavesShort 13 = true) (k : b.leavesShort 13 = true) : (PyData.tuple [a, b]).leavesShort 13 = true := by
  simp only [PyData.leavesShort, PyData.leavesShortAll, h, k, Bool.and_self]
theorem ls3 (a b c : PyData) (h : a.leavesShort 13 = true) (k : b.leavesShort 13 = true) (j : c.leavesShort 13 = true) : (PyData.tuple [a, b, c]).leavesShort 13 = true := by
  simp only [PyData.leavesShort, PyData.leavesShortAll, h, k, j, Bool.and_self]
theorem sh2 (a b : PyData) (h : a.showable = true) (k : b.showable = true) : (PyData.tuple [a, b]).showable = true := by
  simp only [PyData.showable, PyData.showableAll, h, k, Bool.and_self]
theorem sh3 (a b c : PyData) (h : a.showable = true) (k : b.showable = true) (j : c.showable = true) : (PyData.tuple [a, b, c]).showable = true := by
  simp only [PyData.showable, PyData.showableAll, h, k, j, Bool.and_self]
theorem shS (z : Str) : (PyData.str z).showable = true := by simp only [PyData.showable]
theorem wt2 (a b : PyData) : (PyData.tuple [a, b]).weight = a.weight + 1 + (b.weight + 1 + 0) := by simp only [PyData.weight, PyData.weightAll]
theorem wt3 (a b c : PyData) : (PyData.tuple [a, b, c]).weight = a.weight + 1 + (b.weight + 1 + (c.weight + 1 + 0)) := by simp only [PyData.weight, PyData.weightAll]
theorem wtS (w : List Nat) : (PyData.str (S w)).weight = w.length := by
  simp only [PyData.weight]
  exact S_size w
theorem lvI {i : Nat} (h : i ≤ 1000) : (PyData.int (i : Int)).leavesShort 13 = true ∧ (PyData.int (i : Int)).showable = true ∧ (PyData.int (i : Int)).weight ≤ 100 := by
  have h2 := PyData.shown_int_le (i := (i : Int)) (Nat.lt_of_le_of_lt (show (i : Int).natAbs ≤ 1000 by omega) (by decide))
  have hl : (i : Int).natAbs.log2 < 10 := by
    by_cases z : (i : Int).natAbs = 0
    · rw [z]; decide
    · exact (Nat.log2_lt z).mpr (Nat.lt_of_le_of_lt (show (i : Int).natAbs ≤ 1000 by omega) (show 1000 < 2 ^ 10 by decide))
  refine ⟨by simp only [PyData.leavesShort, decide_eq_true_eq]; exact h2, ?_, ?_⟩
  · simp only [PyData.showable, decide_eq_true_eq]; omega
  · simp only [PyData.weight]
    show (if _ then 0 else _) ≤ 100
    split
    · exact Nat.zero_le _
    · exact Nat.le_trans (Nat.succ_le_of_lt hl) (by decide)
theorem kd_short : ∀ k : Kd, k.ok → k.d.leavesShort 13 = true
  | .nm w, h => ls2 _ _ (lvs cokNamed) (lvs (h.elim (fun h => (name_cok h).1) (fun h => by rw [h]; exact cokBool)))
  | .fr w, h => ls2 _ _ (lvs cokFree) (lvs (name_cok h).1)
  | .to a b, h => ls3 _ _ _ (lvs cokTo) (kd_short a h.1) (kd_short b h.2)
theorem kd_weight : ∀ k : Kd, k.ok → k.d.weight ≤ 14 * k.sz + 9
  | .nm w, h => by
    have c : w.length ≤ 16 := h.elim (fun h => (name_cok h).2) (fun h => by rw [h]; decide)
    show (PyData.tuple [.str (S wNAMED), .str (S w)]).weight ≤ 14 * 1 + 9
    rw [wt2, wtS, wtS]
    show 5 + 1 + _ ≤ _; omega
  | .fr w, h => by
    have c : w.length ≤ 16 := (name_cok h).2
    show (PyData.tuple [.str (S wFREE), .str (S w)]).weight ≤ 14 * 1 + 9
    rw [wt2, wtS, wtS]
    show 4 + 1 + _ ≤ _; omega
  | .to a b, h => by
    have := kd_weight a h.1; have := kd_weight b h.2
    show (PyData.tuple [.str (S wTO), a.d, b.d]).weight ≤ 14 * (a.sz + b.sz + 1) + 9
    rw [wt3, wtS]
    show 2 + 1 + _ ≤ _; omega
theorem gk_weight {k : Kd} (h : GK k) : k.d.weight ≤ 1409 := by have := kd_weight k h.1; have := h.2; omega
theorem lg_cok {w : List Nat} (h : isName w = true ∨ w ∈ LOGIC) : Cok w ∧ w.length ≤ 16 := by
  have lg : ∀ w ∈ LOGIC, (∀ c ∈ w, c < 256) ∧ w.length ≤ 16 := by decide
  exact h.elim (fun z => name_cok z) (fun z => lg w z)
theorem c_var : Cok wVAR := by show ∀ c ∈ wVAR, c < 256; decide
theorem c_const : Cok wCONST := by show ∀ c ∈ wCONST, c < 256; decide
theorem c_bound : Cok wBOUND := by show ∀ c ∈ wBOUND, c < 256; decide
theorem c_app : Cok wAPP := by show ∀ c ∈ wAPP, c < 256; decide
theorem c_lam : Cok wLAM := by show ∀ c ∈ wLAM, c < 256; decide
theorem tr_short : ∀ {g : Gt}, g.gok → smB g → (upT g).d.leavesShort 13 = true ∧ (upT g).d.showable = true ∧ (upT g).d.weight ≤ 1500 * g.nodes
  | .app f a, h, z => by
    obtain ⟨f1, f2, f3⟩ := tr_short h.1 z.1
    obtain ⟨a1, a2, a3⟩ := tr_short h.2 z.2
    refine ⟨ls3 _ _ _ (lvs c_app) f1 a1, sh3 _ _ _ (shS _) f2 a2, ?_⟩
    show (PyData.tuple [.str (S wAPP), (upT f).d, (upT a).d]).weight ≤ 1500 * (f.nodes + a.nodes + 1)
    rw [wt3, wtS]
    show 3 + 1 + _ ≤ _; omega
  | .lam k b, h, z => by
    obtain ⟨b1, b2, b3⟩ := tr_short h.2 z
    have hk := gk_weight h.1
    refine ⟨ls3 _ _ _ (lvs c_lam) (kd_short k h.1.1) b1, sh3 _ _ _ (shS _) k.show_ b2, ?_⟩
    show (PyData.tuple [.str (S wLAM), k.d, (upT b).d]).weight ≤ 1500 * (b.nodes + 1)
    rw [wt3, wtS]
    show 3 + 1 + _ ≤ _; omega
  | .tip (.bnd i), h, z => by
    obtain ⟨i1, i2, i3⟩ := lvI z
    refine ⟨ls2 _ _ (lvs c_bound) i1, sh2 _ _ (shS _) i2, ?_⟩
    show (PyData.tuple [.str (S wBOUND), .int (i : Int)]).weight ≤ 1500 * 1
    rw [wt2, wtS]
    show 5 + 1 + _ ≤ _; omega
  | .tip (.var w k), h, z => by
    have hk := gk_weight h.2
    have hw := (name_cok h.1).2
    refine ⟨ls3 _ _ _ (lvs c_var) (lvs (name_cok h.1).1) (kd_short k h.2.1), sh3 _ _ _ (shS _) (shS _) k.show_, ?_⟩
    show (PyData.tuple [.str (S wVAR), .str (S w), k.d]).weight ≤ 1500 * 1
    rw [wt3, wtS, wtS]
    show 3 + 1 + _ ≤ _; omega
  | .tip (.cst w k), h, z => by
    have hk := gk_weight h.2
    have hw := lg_cok h.1
    refine ⟨ls3 _ _ _ (lvs c_const) (lvs hw.1) (kd_short k h.2.1), sh3 _ _ _ (shS _) (shS _) k.show_, ?_⟩
    show (PyData.tuple [.str (S wCONST), .str (S w), k.d]).weight ≤ 1500 * 1
    rw [wt3, wtS, wtS]
    show 5 + 1 + _ ≤ _; omega
theorem eqv_self : ∀ g : Gt, PyData.eqv (upT g).d (upT g).d = true
  | .app f a => by
    show PyData.eqv (.tuple [.str (S wAPP), (upT f).d, (upT a).d]) (.tuple [.str (S wAPP), (upT f).d, (upT a).d]) = true
    simp [PyData.eqv, PyData.eqvAll, eqv_self f, eqv_self a]
  | .lam k b => by
    show PyData.eqv (.tuple [.str (S wLAM), k.d, (upT b).d]) (.tuple [.str (S wLAM), k.d, (upT b).d]) = true
    simp [PyData.eqv, PyData.eqvAll, eqv_self b, Kd.eqv]
  | .tip (.bnd i) => by
    show PyData.eqv (.tuple [.str (S wBOUND), .int (i : Int)]) (.tuple [.str (S wBOUND), .int (i : Int)]) = true
    simp [PyData.eqv, PyData.eqvAll]
  | .tip (.var w k) => by
    show PyData.eqv (.tuple [.str (S wVAR), .str (S w), k.d]) (.tuple [.str (S wVAR), .str (S w), k.d]) = true
    simp [PyData.eqv, PyData.eqvAll, Kd.eqv]
  | .tip (.cst w k) => by
    show PyData.eqv (.tuple [.str (S wCONST), .str (S w), k.d]) (.tuple [.str (S wCONST), .str (S w), k.d]) = true
    simp [PyData.eqv, PyData.eqvAll, Kd.eqv]
theorem tr_shown {g : Gt} (h : g.gok) (z : smB g) (n : g.nodes ≤ 700) : (upT g).d.shown.length ≤ 16777216 := by
  obtain ⟨h1, h2, h3⟩ := tr_short h z
  have := PyData.shown_le 13 (by decide) (upT g).d h1
  omega
end K01

/-! The plain law of k01: what substituting keeps. -/
namespace K01
open PySem L2 TL SX K02
theorem gok_sub {f : Nat → Lf → Gt} (hf : ∀ l x, Lf.ok x → (f l x).gok) : ∀ (g : Gt) (l : Nat), g.gok → (subT f g l).gok
  | .app a b, l, h => ⟨gok_sub hf a l h.1, gok_sub hf b l h.2⟩
  | .lam j b, l, h => ⟨h.1, gok_sub hf b (l + 1) h.2⟩
  | .tip x, l, h => hf l x h
theorem dep_sub {f : Nat → Lf → Gt} {D : Nat} (hf : ∀ l x, (f l x).dep ≤ D + 1) : ∀ (g : Gt) (l : Nat), (subT f g l).dep ≤ g.dep + D
  | .app a b, l => by
    have := dep_sub hf a l; have := dep_sub hf b l
    show max (subT f a l).dep (subT f b l).dep + 1 ≤ max a.dep b.dep + 1 + D
    omega
  | .lam j b, l => by
    have := dep_sub hf b (l + 1)
    show (subT f b (l + 1)).dep + 1 ≤ b.dep + 1 + D
    omega
  | .tip x, l => by
    have := hf l x
    show (f l x).dep ≤ 1 + D
    omega
theorem gok_subC {f : Nat → Lf → List G2} (hf : ∀ l x, Lf.ok x → ∀ r ∈ f l x, r.gok) : ∀ {c : List G2} {todo : List Nat}, (∀ r ∈ c, r.gok) → ∀ r ∈ subC f c todo, r.gok
  | [], _, _, r, hr => by cases hr
  | .app :: c, todo, h, r, hr => by
    rcases List.mem_cons.mp hr with rfl | hr
    · trivial
    · exact gok_subC hf (fun r hr => h r (List.mem_cons_of_mem _ hr)) r hr
  | .lam k :: c, todo, h, r, hr => by
    rcases List.mem_cons.mp hr with rfl | hr
    · exact h (.lam k) List.mem_cons_self
    · exact gok_subC hf (fun r hr => h r (List.mem_cons_of_mem _ hr)) r hr
  | .tip x :: c, todo, h, r, hr => by
    rcases List.mem_append.mp hr with hr | hr
    · exact hf _ x (h (.tip x) List.mem_cons_self) r hr
    · exact gok_subC hf (fun r hr => h r (List.mem_cons_of_mem _ hr)) r hr
theorem len_subC {f : Nat → Lf → List G2} {m : Nat} (hm : 1 ≤ m) (hf : ∀ l x, (f l x).length ≤ m) : ∀ (c : List G2) (todo : List Nat), (subC f c todo).length ≤ c.length * m
  | [], _ => Nat.zero_le _
  | .app :: c, todo => by
    have := len_subC hm hf c (todo.headD 0 :: todo.headD 0 :: todo.tail)
    show (subC f c _).length + 1 ≤ (c.length + 1) * m
    rw [Nat.succ_mul]; omega
  | .lam k :: c, todo => by
    have := len_subC hm hf c ((todo.headD 0 + 1) :: todo.tail)
    show (subC f c _).length + 1 ≤ (c.length + 1) * m
    rw [Nat.succ_mul]; omega
  | .tip x :: c, todo => by
    have := len_subC hm hf c todo.tail
    have := hf (todo.headD 0) x
    show (f _ x ++ subC f c _).length ≤ (c.length + 1) * m
    rw [List.length_append, Nat.succ_mul]; omega
theorem one_subC {f : Nat → Lf → List G2} (hf : ∀ l x, (f l x).length = 1) : ∀ (c : List G2) (todo : List Nat), (subC f c todo).length = c.length
  | [], _ => rfl
  | .app :: c, todo => by show (subC f c _).length + 1 = c.length + 1; rw [one_subC hf c]
  | .lam k :: c, todo => by show (subC f c _).length + 1 = c.length + 1; rw [one_subC hf c]
  | .tip x :: c, todo => by show (f _ x ++ subC f c _).length = c.length + 1; rw [List.length_append, hf, one_subC hf c]; omega
section
variable {w : List Nat} {k : Kd} {l : Nat} {x : Lf} {v : Gt} {vc : List G2}
theorem absL_gok (h : x.ok) : (absL w k l x).gok := by unfold absL; cases isV w k x; exact h; trivial
theorem absL_dep : (absL w k l x).dep ≤ 0 + 1 := by unfold absL; cases isV w k x <;> exact Nat.le_refl _
theorem absL_sm (h : l ≤ 1000) (z : smB (.tip x)) : smB (absL w k l x) := by unfold absL; cases isV w k x; exact z; exact h
theorem absC_gok (h : x.ok) : ∀ r ∈ absC w k l x, r.gok := by
  unfold absC
  cases isV w k x
  · exact fun r hr => by rw [List.mem_singleton.mp hr]; exact h
  · exact fun r hr => by rw [List.mem_singleton.mp hr]; trivial
theorem absC_len : (absC w k l x).length = 1 := by unfold absC; cases isV w k x <;> rfl
theorem insL_gok (hv : v.gok) (h : x.ok) : (insL v l x).gok := by unfold insL; cases isB l x; exact h; exact hv
theorem insL_dep : (insL v l x).dep ≤ (v.dep - 1) + 1 := by
  have := v.dep_pos
  unfold insL
  cases isB l x
  · show 1 ≤ _; omega
  · show v.dep ≤ _; omega
theorem insL_sm (hv : smB v) (z : smB (.tip x)) : smB (insL v l x) := by unfold insL; cases isB l x; exact z; exact hv
theorem insC_gok (hv : ∀ r ∈ vc, r.gok) (h : x.ok) : ∀ r ∈ insC vc l x, r.gok := by
  unfold insC
  cases isB l x
  · exact fun r hr => by rw [List.mem_singleton.mp hr]; exact h
  · exact hv
theorem insC_len {m : Nat} (hm : 1 ≤ m) (hv : vc.length ≤ m) : (insC vc l x).length ≤ m := by unfold insC; cases isB l x; exact hm; exact hv
end
end K01

namespace K03
open PySem PySem.Spec PyProof.Rows L2 SX K02 K01
local macro_rules | `(tactic| walk_at "w1") => `(tactic| (first
  | with_reducible refine w_seq ?_ | with_reducible refine w_asgN ?_ | with_reducible refine w_c ?_
  | ((with_reducible refine' w_var ?wv ?_); (case wv => exact rfl))
  | with_reducible refine w_op ?_ | with_reducible refine w_un ?_ | with_reducible refine w_next ?_ | with_reducible refine w_brk ?_ | with_reducible refine w_cnt ?_
  | with_reducible refine w_ifS ?_ | with_reducible refine w_if ?_ | with_reducible refine w_test ?_ | with_reducible refine w_tB ?_ | with_reducible refine w_bl ?_ | with_reducible refine w_blI ?_
  | with_reducible refine w_and ?_ | with_reducible refine w_or ?_ | with_reducible refine w_not ?_ | with_reducible refine w_andV ?_ | with_reducible refine w_orV ?_ | with_reducible refine w_notV ?_
  | with_reducible refine w_nil ?_ | with_reducible refine w_cons ?_ | with_reducible refine w_cb ?_ | with_reducible refine w_call ?_ | with_reducible refine w_callS ?_ | with_reducible refine w_chain ?_
  | with_reducible refine w_tupN ?_ | with_reducible refine w_lstN ?_ | with_reducible refine w_sl ?_ | with_reducible refine w_noPart ?_ | with_reducible refine w_part ?_ | with_reducible refine w_partI ?_
  | with_reducible refine w_ret ?_ | with_reducible refine w_retN ?_ | with_reducible refine w_drop ?_ | with_reducible refine w_asg ?_ | with_reducible refine w_gSub ?_
  | ((with_reducible refine' w_aug ?wv ?_); (case wv => exact rfl)) | with_reducible refine w_ipI ?_
  | with_reducible refine w_addI ?_ | with_reducible refine w_subI ?_ | with_reducible refine w_ltI ?_ | with_reducible refine w_leI ?_ | with_reducible refine w_gtI ?_ | with_reducible refine w_geI ?_
  | with_reducible refine w_eqI ?_ | with_reducible refine w_neI ?_ | with_reducible refine w_eqT ?_ | with_reducible refine w_neT ?_ | with_reducible refine w_inS ?_ | with_reducible refine w_ninS ?_
  | with_reducible refine w_absI ?_ | with_reducible refine w_intI ?_ | with_reducible refine w_maxI ?_ | with_reducible refine w_minI ?_
  | with_reducible refine w_for ?_ | with_reducible refine w_iR1 ?_ | with_reducible refine w_iR2 ?_ | with_reducible refine w_iStr ?_ | with_reducible refine w_strI ?_ | with_reducible refine w_iList ?_ | with_reducible refine w_iTup ?_
  | with_reducible refine w_bm ?_ | with_reducible refine w_bm0 ?_ | with_reducible refine w_t ?_ | with_reducible refine w_f ?_ | with_reducible refine w_nt ?_ | with_reducible refine w_nx ?_ | with_reducible refine w_rt ?_ | with_reducible refine w_bk ?_ | with_reducible refine w_ct ?_ | with_reducible refine w_nf ?_ | with_reducible refine w_lc ?_ | with_reducible refine w_yes ?_ | with_reducible refine w_neg ?_ | with_reducible refine w_intB ?_ | with_reducible refine w_fld ?_ | with_reducible refine w_setf ?_ | with_reducible refine w_faug ?_ | with_reducible refine w_meth ?_ | with_reducible refine w_bmS ?_ | with_reducible refine w_start ?_ | with_reducible refine w_revL ?_ | with_reducible refine w_iR3 ?_))
local macro_rules | `(tactic| walk_at "w") => `(tactic| (repeat (first | walk_at "w1" | dsimp (config := { proj := false }) only [List.set_cons_zero, List.set_cons_succ])))
section
variable {w : World} [Lit] {mg : Str → Option Value} {base : Heap}

theorem w_iR3 {σ : L2.St} {H : Hp} {tA : TA} {R : It → Hp → Prop} (h : tA σ H fun vs H1 => ∃ (i j c : Int) (n : Nat), vs = [.int i, .int j, .int c] ∧ RgC i j c n ∧ R (Itc i c n) H1) : iRng3 tA σ H R := h
theorem szl {n m : Nat} (h : n ≤ m) (hm : m ≤ 16777216 := by omega) : n ≤ sizeLine := by rw [sizeLine_eq]; omega
theorem tl_let : (Str.ofString "abcdefghijklmnopqrstuvwxyz").cps.toList = LET := by decide +kernel
theorem tl_ws : (Str.ofString "abcdefghijklmnopqrstuvwxyz0123456789_").cps.toList = WS := by decide +kernel
/-! ### the pot -/
def Pot (a : Addr) (H : Hp) : Prop := ∃ r s c : Int, H a = some (.lst [.int r, .int s, .int c]) ∧ 0 ≤ r ∧ 0 ≤ s ∧ s < 2147483647
theorem Pot.same {a : Addr} {H H' : Hp} (h : Pot a H) (k : Same H H') : Pot a H' := by
  obtain ⟨r, s, c, h1, h2⟩ := h; exact ⟨r, s, c, k _ _ h1, h2⟩
theorem Pot.lst {a : Addr} {H : Hp} (h : Pot a H) : ∃ xs, H a = some (.lst xs) := by obtain ⟨r, s, c, h1, h2⟩ := h; exact ⟨_, h1⟩
theorem Pot.ex {a p : Addr} {H H' : Hp} (h : Pot a H) (x : Ex p H H') (n : a ≠ p) : Pot a H' := by
  obtain ⟨r, s, c, h1, h2⟩ := h; exact ⟨r, s, c, by rw [x a n]; exact h1, h2⟩
theorem Pot.ne {a p : Addr} {H : Hp} (h : Pot a H) (hp : H p = none) : p ≠ a := fun z => by
  obtain ⟨r, s, c, h1, h2⟩ := h; subst z; rw [h1] at hp; cases hp
theorem Kb.none {a p : Addr} {H H' : Hp} (k : Kb a H H') (h : Pot a H') (hp : H' p = none) : H p = none := by
  cases e : H p with
  | none => rfl
  | some o => rw [k p o (h.ne hp) e] at hp; cases hp
theorem Kb.pot_tm {a : Addr} {H H' : Hp} (h : Pot a H) (k : Kb a H H') : Tm H H' := let ⟨_, e⟩ := h.lst; k.tm e
theorem DLkb {a p : Addr} {H H' : Hp} {ds : List PyData} (d : DL H p ds) (h : Pot a H) (k : Kb a H H') (n : p ≠ a) : DL H' p ds := let ⟨_, e⟩ := h.lst; d.kb k n e
def sp_law_pot (K : PySem.W.Frag) : Sp := sp2 fun x y H Q _ => ∃ (a : Addr) (ns : List Int) (k : Nat), x = .ref a ∧ y = .int (k : Int) ∧ SqL K H a (ns.map V.int) ∧ ns.length ≤ 63 ∧ k ≤ 63 ∧ ∀ p H', H p = none → Same H H' → Pot p H' → Q (.ref p) H'
theorem ten18 : ((10 : Int) ^ (18 : Int).toNat) = 1000000000000000000 := by decide +kernel
theorem pow10 : CPowN 10 18 := ⟨by decide, by decide +kernel⟩
theorem ok_law_pot (T : Txt w K mg) {fd : FuncData} (F : Fn_law_pot K fd) (hm : mg "_law_pot" = some (.ref (He.ga K "_law_pot")))  : CalX P w K mg base CX0 1 "_law_pot" (sp_law_pot K) := by
  refine calx0 (k := 0) F hm sc_law_pot (b_law_pot F) (fun _ _ _ _ h => sp2_len h) (fun cdv A outer s H vs Q E hr h => ?_)
  obtain ⟨x0, x1, rfl, h⟩ := h
  refine ⟨_, (pss_cons (ps_set (i := 2) sc_law_pot.nd rfl (Or.inl rfl) pe_int)
    (Evl.pss_cut (ps_if (pt_cmpR op_ltI (pv 1) (pe_callB call_lenQ (by rfl) T.f_len PySem.boot_len (pa_cons (pv 0) pa_nil)) (nomark _))
    (pss_one (ps_set (i := 2) sc_law_pot.nd rfl (Or.inl rfl) (pe_callB call_absI (by rfl) T.f_abs (by decide +kernel) (pa_cons (pe_ix ix_list (pv 0) (pv 1) (fun _ _ => rfl)) pa_nil))))
    pss_nil)
    (pss_cons (ps_set (i := 3) sc_law_pot.nd rfl (Or.inl rfl) pe_int)
    (Evl.pss_cut (ps_if (pt_cmpR op_geI (pv 2) (pe_op op_powN pe_int pe_int) (nomark _))
    (pss_one (ps_set (i := 3) sc_law_pot.nd rfl (Or.inl rfl) (pv 2)))
    pss_nil)
    (pss_one (ps_ret (pe_lst (pa_cons (pv 3) (pa_cons (pe_op op_modI (pe_callTy call_intI (by rfl) T.f_int (by decide +kernel) (pa_cons (pe_op op_addI (pe_op op_addI (pv 2) (pe_op op_mulI pe_int (pv 1))) pe_int) pa_nil)) pe_int) (pa_cons pe_int pa_nil)))))))))), ?_⟩
  rw [show start ["script", "k", "cell", "rest"] [x0, x1] = [some x0, some x1, none, none] from rfl]
  obtain ⟨a, ns, k, rfl, rfl, hS, hn, hk, hQ⟩ := h
  try dsimp only [cxOf]
  walk_at "w"
  refine w_mid (fun σ H' => H' = H ∧ ∃ c : Int, 0 ≤ c ∧ σ = [some (.ref a), some (.int (k : Int)), some (.int c), none]) ?_ ?_
  · walk_at "w"
    refine w_lenL hS ?_
    rw [List.length_map]
    walk_at "w"
    refine w_dec (fun h1 => ?_) (fun h1 => ?_)
    · walk_at "w"
      have hk' : k < ns.length := by omega
      have hc : (ns.map V.int)[k]? = some (.int ns[k]) := by rw [List.getElem?_map, List.getElem?_eq_getElem hk']; rfl
      refine w_ixL hS hc ?_
      walk_at "w"
      exact ⟨rfl, _, by split <;> omega, rfl⟩
    · walk_at "w"
      exact ⟨rfl, 0, by omega, rfl⟩
  rintro σ H' ⟨rfl, c, hc, rfl⟩
  walk_at "w"
  refine w_mid (fun σ H1 => H1 = H' ∧ ∃ r : Int, 0 ≤ r ∧ σ = [some (.ref a), some (.int (k : Int)), some (.int c), some (.int r)]) ?_ ?_
  · walk_at "w"
    refine w_powN pow10 ?_
    rw [ten18]
    walk_at "w"
    refine w_dec (fun h1 => ?_) (fun h1 => ?_)
    · walk_at "w"
      exact ⟨rfl, c, hc, rfl⟩
    · walk_at "w"
      exact ⟨rfl, 0, by omega, rfl⟩
  rintro σ H1 ⟨rfl, r, hr0, rfl⟩
  walk_at "w"
  refine w_mulI (.inr (by omega)) ?_
  walk_at "w"
  refine w_modI (by omega) ?_
  walk_at "w"
  refine n_L (fun p H2 hp s e => ?_)
  exact hQ p H2 hp s ⟨_, _, _, e, hr0, Int.emod_nonneg _ (by omega), Int.emod_lt_of_pos _ (by omega)⟩

def sp_law_take : Sp := sp2 fun x y H Q _ => ∃ (a : Addr) (m : Nat), x = .ref a ∧ y = .int (m : Int) ∧ 0 < m ∧ m < 1000000 ∧ Pot a H ∧ ∀ (v : Nat) H', v < m → Pot a H' → Kb a H H' → Q (.int v) H'
theorem ok_law_take (T : Txt w K mg) {fd : FuncData} (F : Fn_law_take K fd) (hm : mg "_law_take" = some (.ref (He.ga K "_law_take")))  : CalX P w K mg base CX0 1 "_law_take" sp_law_take := by
  refine calx0 (k := 0) F hm sc_law_take (b_law_take F) (fun _ _ _ _ h => sp2_len h) (fun cdv A outer s H vs Q E hr h => ?_)
  obtain ⟨x0, x1, rfl, h⟩ := h
  refine ⟨_, (pss_cons (ps_asg (pe_op op_addI (pe_ix ix_list (pv 0) pe_int (fun _ _ => rfl)) pe_int) (pg_sub (pv 0) pe_int set_list))
    (pss_cons (ps_if (pt_cmpR op_gtI (pe_ix ix_list (pv 0) pe_int (fun _ _ => rfl)) pe_int (nomark _))
    (pss_cons (ps_set (i := 2) sc_law_take.nd rfl (Or.inl rfl) (pe_op op_modI (pe_callTy call_intI (by rfl) T.f_int (by decide +kernel) (pa_cons (pe_ix ix_list (pv 0) pe_int (fun _ _ => rfl)) pa_nil)) (pv 1)))
    (pss_cons (ps_asg (pe_op op_divI (pe_ix ix_list (pv 0) pe_int (fun _ _ => rfl)) (pv 1)) (pg_sub (pv 0) pe_int set_list))
    (pss_one (ps_ret (pv 2)))))
    pss_nil)
    (pss_cons (ps_set (i := 3) sc_law_take.nd rfl (Or.inl rfl) (pe_op op_modI (pe_callTy call_intI (by rfl) T.f_int (by decide +kernel) (pa_cons (pe_op op_addI (pe_op op_mulI (pe_ix ix_list (pv 0) pe_int (fun _ _ => rfl)) pe_int) (pe_op op_mulI (pe_ix ix_list (pv 0) pe_int (fun _ _ => rfl)) pe_int)) pa_nil)) pe_int))
    (pss_cons (ps_set (i := 3) sc_law_take.nd rfl (Or.inl rfl) (pe_op op_modI (pe_callTy call_intI (by rfl) T.f_int (by decide +kernel) (pa_cons (pe_op op_addI (pe_op op_mulI (pv 3) (pv 3)) (pe_op op_mulI (pe_ix ix_list (pv 0) pe_int (fun _ _ => rfl)) pe_int)) pa_nil)) pe_int))
    (pss_cons (ps_set (i := 3) sc_law_take.nd rfl (Or.inl rfl) (pe_op op_modI (pe_callTy call_intI (by rfl) T.f_int (by decide +kernel) (pa_cons (pe_op op_addI (pe_op op_mulI (pv 3) (pv 3)) (pe_op op_divI (pv 3) pe_int)) pa_nil)) pe_int))
    (pss_one (ps_ret (pe_op op_modI (pe_callTy call_intI (by rfl) T.f_int (by decide +kernel) (pa_cons (pe_op op_divI (pv 3) pe_int) pa_nil)) (pv 1))))))))), ?_⟩
  rw [show start ["pot", "many", "digit", "mixed"] [x0, x1] = [some x0, some x1, none, none] from rfl]
  obtain ⟨a, m, rfl, rfl, hm, hm2, ⟨r, s0, c, h1, hr0, hs0, hs1⟩, hQ⟩ := h
  have b1 : ∀ a b : Int, 0 < b → 0 ≤ a % b ∧ a % b < b := fun a b h => ⟨Int.emod_nonneg _ (by omega), Int.emod_lt_of_pos _ h⟩
  have fin : ∀ (v : Int) H' (r c : Int), 0 ≤ v → v < m → H' a = some (.lst [.int r, .int s0, .int c]) → 0 ≤ r → Kb a H H' → Q (.int v) H' := fun v H' r c z1 z2 e hr0 k => by
    have e1 : ((v.toNat : Nat) : Int) = v := Int.toNat_of_nonneg z1
    have z := hQ v.toNat H' (by omega) ⟨r, s0, c, e, hr0, hs0, hs1⟩ k
    rw [e1] at z; exact z
  have kb : ∀ {H1 : Hp} {o : HO}, Kb a H H1 → Kb a H (upd H1 a o) := fun k b o n e => by rw [upd_ne n]; exact k b o n e
  try dsimp only [cxOf]
  walk_at "w"
  refine w_ixL (n := 2) (SqL.of h1) rfl ?_
  walk_at "w"
  refine w_setL (k := 2) h1 (Nat.le_of_ble_eq_true rfl) ?_
  walk_at "w"
  have g1 : upd H a (.lst [.int r, .int s0, .int (c + 1)]) a = some (.lst [.int r, .int s0, .int (c + 1)]) := upd_same
  have k1 : Kb a H (upd H a (.lst [.int r, .int s0, .int (c + 1)])) := kb (Kb.refl _ _)
  generalize upd H a (.lst [.int r, .int s0, .int (c + 1)]) = H1 at g1 k1 ⊢
  walk_at "w"
  refine w_ixL (n := 0) (SqL.of g1) rfl ?_
  walk_at "w"
  refine w_dec (fun q1 => ?_) (fun q1 => ?_)
  · walk_at "w"
    refine w_ixL (n := 0) (SqL.of g1) rfl ?_
    walk_at "w"
    refine w_modI (by omega) ?_
    walk_at "w"
    refine w_ixL (n := 0) (SqL.of g1) rfl ?_
    walk_at "w"
    refine w_divI ⟨by omega, by omega⟩ ?_
    walk_at "w"
    refine w_setL (k := 0) g1 (Nat.le_of_ble_eq_true rfl) ?_
    walk_at "w"
    have := b1 r m (by omega)
    exact fin _ _ (r / m) (c + 1) this.1 this.2 upd_same (Int.ediv_nonneg hr0 (by omega)) (kb k1)
  walk_at "w"
  refine w_ixL (n := 1) (SqL.of g1) rfl ?_
  walk_at "w"
  refine w_mulI (.inr (by omega)) ?_
  walk_at "w"
  refine w_ixL (n := 2) (SqL.of g1) rfl ?_
  walk_at "w"
  refine w_mulI (.inr (by omega)) ?_
  walk_at "w"
  refine w_modI (by omega) ?_
  walk_at "w"
  have z1 := b1 (s0 * 48271 + (c + 1) * 69621) 2147483647 (by omega)
  generalize (s0 * 48271 + (c + 1) * 69621) % 2147483647 = f1 at z1 ⊢
  refine w_mulI (.inl ⟨by omega, by omega⟩) ?_
  walk_at "w"
  refine w_ixL (n := 2) (SqL.of g1) rfl ?_
  walk_at "w"
  refine w_mulI (.inr (by omega)) ?_
  walk_at "w"
  refine w_modI (by omega) ?_
  walk_at "w"
  have z2 := b1 (f1 * f1 + (c + 1) * 16807) 2147483629 (by omega)
  generalize (f1 * f1 + (c + 1) * 16807) % 2147483629 = f2 at z2 ⊢
  refine w_mulI (.inl ⟨by omega, by omega⟩) ?_
  walk_at "w"
  refine w_divI ⟨by omega, by omega⟩ ?_
  walk_at "w"
  refine w_modI (by omega) ?_
  walk_at "w"
  refine w_divI ⟨by omega, by omega⟩ ?_
  walk_at "w"
  refine w_modI (by omega) ?_
  walk_at "w"
  have := b1 ((f2 * f2 + f2 / 4096) % 2147483587 / 64) m (by omega)
  exact fin _ _ r (c + 1) this.1 this.2 g1 hr0 k1
end
end K03

namespace K03
open PySem PySem.Spec PyProof.Rows L2 SX K02 K01
local macro_rules | `(tactic| walk_at "w1") => `(tactic| (first
  | with_reducible refine w_seq ?_ | with_reducible refine w_asgN ?_ | with_reducible refine w_c ?_
  | ((with_reducible refine' w_var ?wv ?_); (case wv => exact rfl))
  | with_reducible refine w_op ?_ | with_reducible refine w_un ?_ | with_reducible refine w_next ?_ | with_reducible refine w_brk ?_ | with_reducible refine w_cnt ?_
  | with_reducible refine w_ifS ?_ | with_reducible refine w_if ?_ | with_reducible refine w_test ?_ | with_reducible refine w_tB ?_ | with_reducible refine w_bl ?_ | with_reducible refine w_blI ?_
  | with_reducible refine w_and ?_ | with_reducible refine w_or ?_ | with_reducible refine w_not ?_ | with_reducible refine w_andV ?_ | with_reducible refine w_orV ?_ | with_reducible refine w_notV ?_
  | with_reducible refine w_nil ?_ | with_reducible refine w_cons ?_ | with_reducible refine w_cb ?_ | with_reducible refine w_call ?_ | with_reducible refine w_callS ?_ | with_reducible refine w_chain ?_
  | with_reducible refine w_tupN ?_ | with_reducible refine w_lstN ?_ | with_reducible refine w_sl ?_ | with_reducible refine w_noPart ?_ | with_reducible refine w_part ?_ | with_reducible refine w_partI ?_
  | with_reducible refine w_ret ?_ | with_reducible refine w_retN ?_ | with_reducible refine w_drop ?_ | with_reducible refine w_asg ?_ | with_reducible refine w_gSub ?_
  | ((with_reducible refine' w_aug ?wv ?_); (case wv => exact rfl)) | with_reducible refine w_ipI ?_
  | with_reducible refine w_addI ?_ | with_reducible refine w_subI ?_ | with_reducible refine w_ltI ?_ | with_reducible refine w_leI ?_ | with_reducible refine w_gtI ?_ | with_reducible refine w_geI ?_
  | with_reducible refine w_eqI ?_ | with_reducible refine w_neI ?_ | with_reducible refine w_eqT ?_ | with_reducible refine w_neT ?_ | with_reducible refine w_inS ?_ | with_reducible refine w_ninS ?_
  | with_reducible refine w_absI ?_ | with_reducible refine w_intI ?_ | with_reducible refine w_maxI ?_ | with_reducible refine w_minI ?_
  | with_reducible refine w_for ?_ | with_reducible refine w_iR1 ?_ | with_reducible refine w_iR2 ?_ | with_reducible refine w_iStr ?_ | with_reducible refine w_strI ?_ | with_reducible refine w_iList ?_ | with_reducible refine w_iTup ?_
  | with_reducible refine w_bm ?_ | with_reducible refine w_bm0 ?_ | with_reducible refine w_t ?_ | with_reducible refine w_f ?_ | with_reducible refine w_nt ?_ | with_reducible refine w_nx ?_ | with_reducible refine w_rt ?_ | with_reducible refine w_bk ?_ | with_reducible refine w_ct ?_ | with_reducible refine w_nf ?_ | with_reducible refine w_lc ?_ | with_reducible refine w_yes ?_ | with_reducible refine w_neg ?_ | with_reducible refine w_intB ?_ | with_reducible refine w_fld ?_ | with_reducible refine w_setf ?_ | with_reducible refine w_faug ?_ | with_reducible refine w_meth ?_ | with_reducible refine w_bmS ?_ | with_reducible refine w_start ?_ | with_reducible refine w_revL ?_ | with_reducible refine w_iR3 ?_))
local macro_rules | `(tactic| walk_at "w") => `(tactic| (repeat (first | walk_at "w1" | dsimp (config := { proj := false }) only [List.set_cons_zero, List.set_cons_succ])))
section
variable {w : World} [Lit] {mg : Str → Option Value} {base : Heap}

/-- shaped as a name -/
def NSh (l : List Nat) : Prop := (1 ≤ l.length ∧ l.length ≤ 16) ∧ (∃ c, l[0]? = some c ∧ c ∈ LET) ∧ ∀ c ∈ l, c ∈ WS
def WS2 : List Nat := LET ++ [95,48,49,50,51,52,53,54,55,56,57]
theorem ws2 {c : Nat} (h : c ∈ WS2) : c ∈ WS := by
  have : ∀ c ∈ WS2, c ∈ WS := by decide
  exact this c h
theorem let_ws {c : Nat} (h : c ∈ LET) : c ∈ WS := List.mem_append_left _ h
theorem let_cat : S LET ++ S [95,48,49,50,51,52,53,54,55,56,57] = S WS2 := S_app _ _
theorem res_vs : ([.str (S [97,108,108]), .str (S [115,111,109,101]), .str (S [108,97,109]), .str (S [116,114,117,101]), .str (S [102,97,108,115,101]), .str (S [98,111,111,108])] : List V) = RES.map fun r => V.str (S r) := rfl
def sp_law_mended : Sp := sp1 fun a H Q _ => ∃ l : List Nat, a = .str (S l) ∧ NSh l ∧ ∀ l' H', isName l' = true → Same H H' → Q (.str (S l')) H'
theorem ok_law_mended (T : Txt w K mg) {fd : FuncData} (F : Fn_law_mended K fd) (hm : mg "_law_mended" = some (.ref (He.ga K "_law_mended")))  : CalX P w K mg base CX0 1 "_law_mended" sp_law_mended := by
  refine calx0 (k := 0) F hm sc_law_mended (b_law_mended F) (fun _ _ _ _ h => sp1_len h) (fun cdv A outer s H vs Q E hr h => ?_)
  obtain ⟨x0, rfl, h⟩ := h
  refine ⟨_, (pss_cons (ps_if (pt_cmpR op_in_seq (pv 0) (pe_lst (pa_cons pe_str (pa_cons pe_str (pa_cons pe_str (pa_cons pe_str (pa_cons pe_str (pa_cons pe_str pa_nil))))))) rfl)
    (pss_one (ps_ret (pe_op op_catS (pv 0) pe_str)))
    pss_nil)
    (pss_one (ps_ret (pv 0)))), ?_⟩
  rw [show start ["word"] [x0] = [some x0] from rfl]
  have ec0 : Str.ofString "all" = S [97,108,108] := S_ofs (by decide +kernel)
  have ec1 : Str.ofString "some" = S [115,111,109,101] := S_ofs (by decide +kernel)
  have ec2 : Str.ofString "lam" = S [108,97,109] := S_ofs (by decide +kernel)
  have ec3 : Str.ofString "true" = S [116,114,117,101] := S_ofs (by decide +kernel)
  have ec4 : Str.ofString "false" = S [102,97,108,115,101] := S_ofs (by decide +kernel)
  have ec5 : Str.ofString "bool" = S [98,111,111,108] := S_ofs (by decide +kernel)
  have ec6 : Str.ofString "0" = S [48] := S_ofs (by decide +kernel)
  rw [ec0, ec1, ec2, ec3, ec4, ec5, ec6]
  obtain ⟨l, rfl, ⟨h1, h2, h3⟩, hQ⟩ := h
  try dsimp only [cxOf]
  walk_at "w"
  refine n_L (fun p H1 hp s1 e1 => ?_)
  refine w_inLst (SqL.of e1) res_vs ?_
  walk_at "w"
  refine w_dec (fun h4 => ?_) (fun h4 => ?_)
  · have hlen : ∀ r ∈ RES, r.length ≤ 5 := by decide
    have hl := hlen l h4
    walk_at "w"
    refine w_catT (szl (show l.length + 1 ≤ 100 by omega)) ?_
    walk_at "w"
    refine hQ _ H1 ?_ s1
    have hno : ∀ r ∈ RES, 48 ∉ r := by decide
    unfold isName
    refine decide_eq_true ⟨by rw [List.length_append]; show 1 ≤ l.length + 1 ∧ l.length + 1 ≤ 16; omega, fun z => hno _ z (by simp), ?_, fun c hc => ?_⟩
    · obtain ⟨c, q1, q2⟩ := h2
      exact ⟨c, by rw [List.getElem?_append_left (by omega)]; exact q1, q2⟩
    · rcases List.mem_append.mp hc with hc | hc
      · exact h3 c hc
      · rw [List.mem_singleton.mp hc]; decide
  · walk_at "w"
    exact hQ l H1 (by unfold isName; exact decide_eq_true ⟨h1, h4, h2, h3⟩) s1

def sp_law_name : Sp := sp1 fun x H Q _ => ∃ a : Addr, x = .ref a ∧ Pot a H ∧ ∀ l H', isName l = true → Pot a H' → Kb a H H' → Q (.str (S l)) H'
theorem let_len : LET.length = 26 := by decide
theorem ws2_len : WS2.length = 37 := by decide
theorem ok_law_name (T : Txt w K mg) {fd : FuncData} (F : Fn_law_name K fd) (hm : mg "_law_name" = some (.ref (He.ga K "_law_name"))) (c_law_take : CalX P w K mg base CX0 1 "_law_take" sp_law_take) (c_law_mended : CalX P w K mg base CX0 1 "_law_mended" sp_law_mended) : CalX P w K mg base CX0 2 "_law_name" sp_law_name := by
  refine calx0 (k := 1) F hm sc_law_name (b_law_name F) (fun _ _ _ _ h => sp1_len h) (fun cdv A outer s H vs Q E hr h => ?_)
  obtain ⟨x0, rfl, h⟩ := h
  refine ⟨_, (pss_cons (ps_set (i := 1) sc_law_name.nd rfl (Or.inl rfl) pe_str)
    (pss_cons (ps_set (i := 2) sc_law_name.nd rfl (Or.inl rfl) (pe_op op_addI pe_int (pe_cx c_law_take hr (by decide) rfl pass0 (pa_cons (pv 0) (pa_cons pe_int pa_nil)))))
    (Evl.pss_cut (ps_if (pt_cmpR op_eq (pe_cx c_law_take hr (by decide) rfl pass0 (pa_cons (pv 0) (pa_cons pe_int pa_nil))) pe_int (nomark _))
    (pss_one (ps_set (i := 2) sc_law_name.nd rfl (Or.inl rfl) (pe_op op_addI pe_int (pe_cx c_law_take hr (by decide) rfl pass0 (pa_cons (pv 0) (pa_cons pe_int pa_nil))))))
    pss_nil)
    (pss_cons (ps_set (i := 3) sc_law_name.nd rfl (Or.inl rfl) (pe_ix ix_str (pv 1) (pe_cx c_law_take hr (by decide) rfl pass0 (pa_cons (pv 0) (pa_cons pe_int pa_nil))) (fun _ _ => rfl)))
    (pss_cons (ps_for PassesOwn.never rfl (pi_range1 (by rfl) T.f_range (pa_cons (pe_op op_subI (pv 2) pe_int) pa_nil)) (pg_name (i := 4) sc_law_name.nd rfl (Or.inl rfl))
    (pss_one (ps_set (i := 3) sc_law_name.nd rfl (Or.inl rfl) (pe_op op_catS (pv 3) (pe_ix ix_str (pe_op op_catS (pv 1) pe_str) (pe_cx c_law_take hr (by decide) rfl pass0 (pa_cons (pv 0) (pa_cons pe_int pa_nil))) (fun _ _ => rfl))))))
    (pss_one (ps_ret (pe_cx c_law_mended hr (by decide) rfl pass0 (pa_cons (pv 3) pa_nil))))))))), ?_⟩
  rw [show start ["pot", "letters", "size", "word", "k"] [x0] = [some x0, none, none, none, none] from rfl]
  have ec0 : Str.ofString "abcdefghijklmnopqrstuvwxyz" = S [97,98,99,100,101,102,103,104,105,106,107,108,109,110,111,112,113,114,115,116,117,118,119,120,121,122] := S_ofs (by decide +kernel)
  have ec1 : Str.ofString "_0123456789" = S [95,48,49,50,51,52,53,54,55,56,57] := S_ofs (by decide +kernel)
  rw [ec0, ec1]
  obtain ⟨a, rfl, hP, hQ⟩ := h
  rw [show S [97,98,99,100,101,102,103,104,105,106,107,108,109,110,111,112,113,114,115,116,117,118,119,120,121,122] = S LET from rfl]
  try dsimp only [cxOf]
  walk_at "w"
  refine ⟨_, _, rfl, a, 4, rfl, rfl, by omega, by omega, hP, fun v1 H1 hv1 P1 k1 => ?_⟩
  walk_at "w"
  refine w_mid (fun σ H' => ∃ n : Nat, n < 16 ∧ σ = [some (.ref a), some (.str (S LET)), some (.int ((n + 1 : Nat) : Int)), none, none] ∧ Pot a H' ∧ Kb a H H') ?_ ?_
  · walk_at "w"
    refine ⟨_, _, rfl, a, 4, rfl, rfl, by omega, by omega, P1, fun v2 H2 hv2 P2 k2 => ?_⟩
    walk_at "w"
    refine w_dec (fun h1 => ?_) (fun h1 => ?_)
    · walk_at "w"
      refine ⟨_, _, rfl, a, 16, rfl, rfl, by omega, by omega, P2, fun v3 H3 hv3 P3 k3 => ?_⟩
      walk_at "w"
      exact ⟨v3, hv3, by rw [show (1 : Int) + (v3 : Int) = ((v3 + 1 : Nat) : Int) by omega], P3, (k1.tr k2).tr k3⟩
    · walk_at "w"
      exact ⟨v1, by omega, by rw [show (1 : Int) + (v1 : Int) = ((v1 + 1 : Nat) : Int) by omega], P2, k1.tr k2⟩
  rintro σ H2 ⟨n, hn, rfl, P2, k2⟩
  walk_at "w"
  refine ⟨_, _, rfl, a, 26, rfl, rfl, by omega, by omega, P2, fun v3 H3 hv3 P3 k3 => ?_⟩
  walk_at "w"
  have hv3' : v3 < LET.length := by rw [let_len]; exact hv3
  refine w_ixS (szl (show LET.length ≤ 100 by decide)) (List.getElem?_eq_getElem hv3') ?_
  have hl := List.getElem_mem hv3'
  generalize LET[v3] = c0 at hl ⊢
  walk_at "w"
  refine w_rg1 (by omega) (by omega) ?_
  rw [show (((n + 1 : Nat) : Int) - 1).toNat = n by omega]
  refine for_range (fun i σ H' => ∃ (u : List Nat) (v : Option V), σ = [some (.ref a), some (.str (S LET)), some (.int ((n + 1 : Nat) : Int)), some (.str (S (c0 :: u))), v] ∧ u.length = i ∧ (∀ c ∈ u, c ∈ WS) ∧ Pot a H' ∧ Kb a H H')
    ⟨[], none, rfl, rfl, (fun c hc => by cases hc), P3, k2.tr k3⟩ ?_ ?_
  · rintro i σ H' hi ⟨u, v, rfl, hu, hw, P4, k4⟩
    have hi : i < n := by omega
    dsimp only [gName]
    walk_at "w"
    refine w_catT (szl (show LET.length + 11 ≤ 100 by decide)) ?_
    rw [show LET ++ [95,48,49,50,51,52,53,54,55,56,57] = WS2 from rfl]
    walk_at "w"
    refine ⟨_, _, rfl, a, 37, rfl, rfl, by omega, by omega, P4, fun v5 H5 hv5 P5 k5 => ?_⟩
    have hv5' : v5 < WS2.length := by rw [ws2_len]; exact hv5
    refine w_ixS (szl (show WS2.length ≤ 100 by decide)) (List.getElem?_eq_getElem hv5') ?_
    have hl5 := ws2 (List.getElem_mem hv5')
    generalize WS2[v5] = c5 at hl5 ⊢
    rw [show V.str (⟨#[c5]⟩ : Str) = V.str (S [c5]) from rfl]
    refine w_catT (szl (show (c0 :: u).length + 1 ≤ 100 by rw [List.length_cons]; omega)) ?_
    walk_at "w"
    refine ⟨u ++ [c5], _, rfl, by rw [List.length_append, hu]; rfl, fun c hc => ?_, P5, k4.tr k5⟩
    rcases List.mem_append.mp hc with hc | hc
    · exact hw c hc
    · rw [List.mem_singleton.mp hc]; exact hl5
  · rintro σ H' ⟨u, v, rfl, hu, hw, P4, k4⟩
    walk_at "w"
    refine ⟨_, rfl, c0 :: u, rfl, ⟨by rw [List.length_cons, hu]; omega, ⟨c0, rfl, hl⟩, fun c hc => ?_⟩, fun l' H6 hn6 s6 => ?_⟩
    · rcases List.mem_cons.mp hc with rfl | hc
      · exact let_ws hl
      · exact hw c hc
    · exact hQ l' H6 hn6 (P4.same s6) (k4.then s6)

def sp_law_near : Sp := sp2 fun x y H Q _ => ∃ (a : Addr) (l : List Nat), x = .ref a ∧ y = .str (S l) ∧ isName l = true ∧ Pot a H ∧ ∀ l' H', isName l' = true → Pot a H' → Kb a H H' → Q (.str (S l')) H'
theorem name_sh {l : List Nat} (h : isName l = true) : NSh l := by
  have := of_decide_eq_true h
  exact ⟨this.1, this.2.2.1, this.2.2.2⟩
theorem ok_law_near (T : Txt w K mg) {fd : FuncData} (F : Fn_law_near K fd) (hm : mg "_law_near" = some (.ref (He.ga K "_law_near"))) (c_law_take : CalX P w K mg base CX0 1 "_law_take" sp_law_take) (c_law_mended : CalX P w K mg base CX0 1 "_law_mended" sp_law_mended) : CalX P w K mg base CX0 2 "_law_near" sp_law_near := by
  refine calx0 (k := 1) F hm sc_law_near (b_law_near F) (fun _ _ _ _ h => sp2_len h) (fun cdv A outer s H vs Q E hr h => ?_)
  obtain ⟨x0, x1, rfl, h⟩ := h
  refine ⟨_, (pss_cons (ps_set (i := 2) sc_law_near.nd rfl (Or.inl rfl) (pe_cx c_law_take hr (by decide) rfl pass0 (pa_cons (pv 0) (pa_cons (pe_callB call_lenT (by rfl) T.f_len PySem.boot_len (pa_cons (pv 1) pa_nil)) pa_nil))))
    (pss_cons (ps_set (i := 3) sc_law_near.nd rfl (Or.inl rfl) (pe_ix ix_str pe_str (pe_cx c_law_take hr (by decide) rfl pass0 (pa_cons (pv 0) (pa_cons pe_int pa_nil))) (fun _ _ => rfl)))
    (pss_one (ps_ret (pe_cx c_law_mended hr (by decide) rfl pass0 (pa_cons (pe_op op_catS (pe_op op_catS (pe_slice sl_str (pv 1) po_none (po_some (pv 2))) (pv 3)) (pe_slice sl_str (pv 1) (po_some (pe_op op_addI (pv 2) pe_int)) po_none)) pa_nil)))))), ?_⟩
  rw [show start ["pot", "word", "place", "letter"] [x0, x1] = [some x0, some x1, none, none] from rfl]
  have ec0 : Str.ofString "abcdefghijklmnopqrstuvwxyz" = S [97,98,99,100,101,102,103,104,105,106,107,108,109,110,111,112,113,114,115,116,117,118,119,120,121,122] := S_ofs (by decide +kernel)
  rw [ec0]
  obtain ⟨a, l, rfl, rfl, hl, hP, hQ⟩ := h
  obtain ⟨q1, ⟨c1, q2, q2'⟩, q3⟩ := name_sh hl
  rw [show S [97,98,99,100,101,102,103,104,105,106,107,108,109,110,111,112,113,114,115,116,117,118,119,120,121,122] = S LET from rfl]
  try dsimp only [cxOf]
  walk_at "w"
  refine w_lenS (szl (show l.length ≤ 100 by omega)) ?_
  walk_at "w"
  refine ⟨_, _, rfl, a, l.length, rfl, rfl, by omega, by omega, hP, fun v1 H1 hv1 P1 k1 => ?_⟩
  walk_at "w"
  refine ⟨_, _, rfl, a, 26, rfl, rfl, by omega, by omega, P1, fun v3 H3 hv3 P3 k3 => ?_⟩
  have hv3' : v3 < LET.length := by rw [let_len]; exact hv3
  refine w_ixS (szl (show LET.length ≤ 100 by decide)) (List.getElem?_eq_getElem hv3') ?_
  have hl3 := List.getElem_mem hv3'
  generalize LET[v3] = c3 at hl3 ⊢
  rw [show V.str (⟨#[c3]⟩ : Str) = V.str (S [c3]) from rfl]
  walk_at "w"
  refine w_cutTo (szl (show l.length ≤ 100 by omega)) ?_
  walk_at "w"
  refine w_catT (szl (show (l.take v1).length + 1 ≤ 100 by rw [List.length_take]; omega)) ?_
  walk_at "w"
  rw [show (v1 : Int) + 1 = ((v1 + 1 : Nat) : Int) by omega]
  refine w_cutFrom (szl (show l.length ≤ 100 by omega)) ?_
  refine w_catT (szl (show (l.take v1 ++ [c3]).length + (l.drop (v1 + 1)).length ≤ 100 by rw [List.length_append, List.length_take, List.length_drop]; show min v1 l.length + 1 + _ ≤ 100; omega)) ?_
  walk_at "w"
  refine ⟨_, rfl, l.take v1 ++ [c3] ++ l.drop (v1 + 1), rfl, ⟨?_, ?_, fun c hc => ?_⟩, fun l' H6 hn6 s6 => ?_⟩
  · rw [List.length_append, List.length_append, List.length_take, List.length_drop]
    show 1 ≤ min v1 l.length + 1 + _ ∧ min v1 l.length + 1 + _ ≤ 16
    omega
  · cases v1 with
    | zero => exact ⟨c3, rfl, hl3⟩
    | succ v1 =>
      refine ⟨c1, ?_, q2'⟩
      rw [List.append_assoc, List.getElem?_append_left (by rw [List.length_take]; omega), List.getElem?_take_of_lt (by omega)]
      exact q2
  · rcases List.mem_append.mp hc with hc | hc
    · rcases List.mem_append.mp hc with hc | hc
      · exact q3 c (List.mem_of_mem_take hc)
      · rw [List.mem_singleton.mp hc]; exact let_ws hl3
    · exact q3 c (List.mem_of_mem_drop hc)
  · exact hQ l' H6 hn6 (P3.same s6) ((k1.tr k3).then s6)

/-- four names -/
def NmL (H : Hp) (p : Addr) : Prop := ∃ ws : List (List Nat), DL H p (ws.map fun w => PyData.str (S w)) ∧ ws.length = 4 ∧ ∀ w ∈ ws, isName w = true
theorem NmL.same {H H' : Hp} {p : Addr} (h : NmL H p) (s : Same H H') : NmL H' p := let ⟨ws, h1, h2⟩ := h; ⟨ws, h1.same s, h2⟩
theorem NmL.kb {a : Addr} {H H' : Hp} {p : Addr} (h : NmL H p) (P : Pot a H) (k : Kb a H H') (n : p ≠ a) : NmL H' p := let ⟨ws, h1, h2⟩ := h; ⟨ws, DLkb h1 P k n, h2⟩
theorem NmL.ex {q : Addr} {H H' : Hp} {p : Addr} (h : NmL H p) (x : Ex q H H') (n : p ≠ q) {xs : List V} (hq : H q = some (.lst xs)) : NmL H' p := let ⟨ws, h1, h2⟩ := h; ⟨ws, h1.ex x n hq, h2⟩
theorem NmL.ne {a : Addr} {H : Hp} {p : Addr} (h : NmL H p) (P : Pot a H) : p ≠ a := fun z => by
  obtain ⟨ws, ⟨xs, e, t⟩, h2, _⟩ := h
  obtain ⟨r, s, c, h1, _⟩ := P
  subst z
  rw [h1] at e
  cases e
  have := t.len
  rw [List.length_map, h2] at this
  cases this
theorem NmL.ix {Q : VK} {H : Hp} {p : Addr} (h : NmL H p) {i : Nat} (hi : i < 4) (k : ∀ w, isName w = true → Q (.str (S w)) H) : rIxL K (.ref p) (.int (i : Int)) H Q := by
  obtain ⟨ws, h1, h2, h3⟩ := h
  have hi' : i < ws.length := by omega
  refine l_ix h1 (d := .str (S ws[i])) (by rw [List.getElem?_map, List.getElem?_eq_getElem hi']; rfl) (fun x tx => ?_)
  rw [tx.txt]
  exact k _ (h3 _ (List.getElem_mem hi'))
def sp_law_words : Sp := sp1 fun x H Q _ => ∃ a : Addr, x = .ref a ∧ Pot a H ∧ ∀ p H', H p = none → NmL H' p → Pot a H' → Kb a H H' → Q (.ref p) H'
theorem ok_law_words (T : Txt w K mg) {fd : FuncData} (F : Fn_law_words K fd) (hm : mg "_law_words" = some (.ref (He.ga K "_law_words"))) (c_law_name : CalX P w K mg base CX0 2 "_law_name" sp_law_name) (c_law_near : CalX P w K mg base CX0 2 "_law_near" sp_law_near) : CalX P w K mg base CX0 3 "_law_words" sp_law_words := by
  refine calx0 (k := 2) F hm sc_law_words (b_law_words F) (fun _ _ _ _ h => sp1_len h) (fun cdv A outer s H vs Q E hr h => ?_)
  obtain ⟨x0, rfl, h⟩ := h
  refine ⟨_, (pss_cons (ps_set (i := 1) sc_law_words.nd rfl (Or.inl rfl) (pe_cx c_law_name hr (by decide) rfl pass0 (pa_cons (pv 0) pa_nil)))
    (pss_cons (ps_set (i := 2) sc_law_words.nd rfl (Or.inl rfl) (pe_cx c_law_near hr (by decide) rfl pass0 (pa_cons (pv 0) (pa_cons (pv 1) pa_nil))))
    (pss_cons (ps_set (i := 3) sc_law_words.nd rfl (Or.inl rfl) (pe_cx c_law_name hr (by decide) rfl pass0 (pa_cons (pv 0) pa_nil)))
    (pss_cons (ps_set (i := 4) sc_law_words.nd rfl (Or.inl rfl) (pe_cx c_law_near hr (by decide) rfl pass0 (pa_cons (pv 0) (pa_cons (pv 3) pa_nil))))
    (pss_one (ps_ret (pe_lst (pa_cons (pv 1) (pa_cons (pv 2) (pa_cons (pv 3) (pa_cons (pv 4) pa_nil))))))))))), ?_⟩
  rw [show start ["pot", "first", "second", "third", "fourth"] [x0] = [some x0, none, none, none, none] from rfl]
  obtain ⟨a, rfl, hP, hQ⟩ := h
  try dsimp only [cxOf]
  walk_at "w"
  refine ⟨_, rfl, a, rfl, hP, fun l1 H1 n1 P1 k1 => ?_⟩
  walk_at "w"
  refine ⟨_, _, rfl, a, l1, rfl, rfl, n1, P1, fun l2 H2 n2 P2 k2 => ?_⟩
  walk_at "w"
  refine ⟨_, rfl, a, rfl, P2, fun l3 H3 n3 P3 k3 => ?_⟩
  walk_at "w"
  refine ⟨_, _, rfl, a, l3, rfl, rfl, n3, P3, fun l4 H4 n4 P4 k4 => ?_⟩
  walk_at "w"
  have k14 := ((k1.tr k2).tr k3).tr k4
  refine l_new (ds := [l1, l2, l3, l4].map fun w => PyData.str (S w)) (.cons (.str _) (.cons (.str _) (.cons (.str _) (.cons (.str _) .nil)))) (fun p H5 hp s5 d5 => ?_)
  exact hQ p H5 (Kb.none k14 P4 hp) ⟨[l1, l2, l3, l4], d5, rfl, by simp [n1, n2, n3, n4]⟩ (P4.same s5) (k14.then s5)

theorem w_eqSS {H : Hp} {Q : VK} {s : Str} (h : Q (.bl true) H) : rEq (.str s) (.str s) H Q := ⟨rfl, by rw [decide_eq_true rfl]; exact h⟩
/-- data that shows itself alike -/
def Shw (d : PyData) : Prop := Sz 180 d ∧ PyData.eqv d d = true ∧ d.showable = true ∧ d.shown.length ≤ 16777216
def sp_law_same : Sp := sp2 fun x y H Q _ => ∃ ds, TD H x (.tuple ds) ∧ TD H y (.tuple ds) ∧ Shw (.tuple ds) ∧ Q (.bl true) H
theorem ok_law_same (T : Txt w K mg) {fd : FuncData} (F : Fn_law_same K fd) (hm : mg "_law_same" = some (.ref (He.ga K "_law_same")))  : CalG P w K mg base CX0 1 "_law_same" sp_law_same := by
  refine calg0 (k := 0) F hm sc_law_same (b_law_same F) (fun _ _ _ _ h => sp2_len h) (fun cdv A outer s H vs Q E hr h => ?_)
  obtain ⟨x0, x1, rfl, h⟩ := h
  refine ⟨_, (pss_one (ps_ret (pe_and (pe_callB call_isi (by rfl) T.f_isinstance (by decide +kernel) (pa_cons (pv 0) (pa_cons (pe_bltn (v := .ty "tuple") (by rfl) T.f_tuple (by decide +kernel) rfl) pa_nil))) (pe_and (pe_cmpR (op_eqN hr.toRoom) (pv 0) (pv 1) (nomark _)) (pe_one (pe_cmpR op_eq (pe_callB (call_repr hr) (by rfl) T.f_repr (by decide +kernel) (pa_cons (pv 0) pa_nil)) (pe_callB (call_repr hr) (by rfl) T.f_repr (by decide +kernel) (pa_cons (pv 1) pa_nil)) (nomark _))))))), ?_⟩
  rw [show start ["actual", "due"] [x0, x1] = [some x0, some x1] from rfl]
  obtain ⟨ds, hx, hy, ⟨hs, he, h1, h2⟩, hQ⟩ := h
  try dsimp only [cxOf]
  walk_at "w"
  refine w_isi hx.ty_tup kit_tt ?_
  walk_at "w"
  refine d_eq hx hy hs hs ?_
  rw [he]
  walk_at "w"
  refine d_repr hx hs h1 h2 ?_
  walk_at "w"
  refine d_repr hy hs h1 h2 ?_
  refine w_eqSS ?_
  exact hQ
end
end K03

namespace K03
open PySem PySem.Spec PyProof.Rows L2 SX K02 K01
local macro_rules | `(tactic| walk_at "w1") => `(tactic| (first
  | with_reducible refine w_seq ?_ | with_reducible refine w_asgN ?_ | with_reducible refine w_c ?_
  | ((with_reducible refine' w_var ?wv ?_); (case wv => exact rfl))
  | with_reducible refine w_op ?_ | with_reducible refine w_un ?_ | with_reducible refine w_next ?_ | with_reducible refine w_brk ?_ | with_reducible refine w_cnt ?_
  | with_reducible refine w_ifS ?_ | with_reducible refine w_if ?_ | with_reducible refine w_test ?_ | with_reducible refine w_tB ?_ | with_reducible refine w_bl ?_ | with_reducible refine w_blI ?_
  | with_reducible refine w_and ?_ | with_reducible refine w_or ?_ | with_reducible refine w_not ?_ | with_reducible refine w_andV ?_ | with_reducible refine w_orV ?_ | with_reducible refine w_notV ?_
  | with_reducible refine w_nil ?_ | with_reducible refine w_cons ?_ | with_reducible refine w_cb ?_ | with_reducible refine w_call ?_ | with_reducible refine w_callS ?_ | with_reducible refine w_chain ?_
  | with_reducible refine w_tupN ?_ | with_reducible refine w_lstN ?_ | with_reducible refine w_sl ?_ | with_reducible refine w_noPart ?_ | with_reducible refine w_part ?_ | with_reducible refine w_partI ?_
  | with_reducible refine w_ret ?_ | with_reducible refine w_retN ?_ | with_reducible refine w_drop ?_ | with_reducible refine w_asg ?_ | with_reducible refine w_gSub ?_
  | ((with_reducible refine' w_aug ?wv ?_); (case wv => exact rfl)) | with_reducible refine w_ipI ?_
  | with_reducible refine w_addI ?_ | with_reducible refine w_subI ?_ | with_reducible refine w_ltI ?_ | with_reducible refine w_leI ?_ | with_reducible refine w_gtI ?_ | with_reducible refine w_geI ?_
  | with_reducible refine w_eqI ?_ | with_reducible refine w_neI ?_ | with_reducible refine w_eqT ?_ | with_reducible refine w_neT ?_ | with_reducible refine w_inS ?_ | with_reducible refine w_ninS ?_
  | with_reducible refine w_absI ?_ | with_reducible refine w_intI ?_ | with_reducible refine w_maxI ?_ | with_reducible refine w_minI ?_
  | with_reducible refine w_for ?_ | with_reducible refine w_iR1 ?_ | with_reducible refine w_iR2 ?_ | with_reducible refine w_iStr ?_ | with_reducible refine w_strI ?_ | with_reducible refine w_iList ?_ | with_reducible refine w_iTup ?_
  | with_reducible refine w_bm ?_ | with_reducible refine w_bm0 ?_ | with_reducible refine w_t ?_ | with_reducible refine w_f ?_ | with_reducible refine w_nt ?_ | with_reducible refine w_nx ?_ | with_reducible refine w_rt ?_ | with_reducible refine w_bk ?_ | with_reducible refine w_ct ?_ | with_reducible refine w_nf ?_ | with_reducible refine w_lc ?_ | with_reducible refine w_yes ?_ | with_reducible refine w_neg ?_ | with_reducible refine w_intB ?_ | with_reducible refine w_fld ?_ | with_reducible refine w_setf ?_ | with_reducible refine w_faug ?_ | with_reducible refine w_meth ?_ | with_reducible refine w_bmS ?_ | with_reducible refine w_start ?_ | with_reducible refine w_revL ?_ | with_reducible refine w_iR3 ?_))
local macro_rules | `(tactic| walk_at "w") => `(tactic| (repeat (first | walk_at "w1" | dsimp (config := { proj := false }) only [List.set_cons_zero, List.set_cons_succ])))
section
variable {w : World} [Lit] {mg : Str → Option Value} {base : Heap}
/-- the data of a code -/
def cd (c : List PRow) : List PyData := c.map Rw.d
theorem row_d {H : Hp} {x : V} {r : PRow} (h : TD H x r.d) (ho : RowOk r) : ∃ s rest, TD H x (.tuple (.str (S s) :: rest)) ∧ (PyData.tuple (.str (S s) :: rest)) = r.d ∧ (match r with | .app => s = wAPP | .lam _ => s = wLAM | .tip (.odd _) => s = wODD | .tip (.tip _) => s ≠ wAPP ∧ s ≠ wLAM ∧ s ≠ wODD) := by
  cases r with
  | app => exact ⟨_, _, h, rfl, rfl⟩
  | lam k => exact ⟨_, _, h, rfl, rfl⟩
  | tip t =>
    cases t with
    | odd d => exact ⟨_, _, h, rfl, rfl⟩
    | tip d =>
      obtain ⟨s, r, e, h1, h2, h3⟩ := ho
      have h : TD H x d := h
      rw [e] at h
      exact ⟨s, r, h, e.symm, h1, h2, h3⟩
def stk (ts : List PTr) : List PyData := (ts.map Tr.d).reverse
theorem stk_cons (t : PTr) (ts : List PTr) : stk (t :: ts) = stk ts ++ [t.d] := by unfold stk; rw [List.map_cons, List.reverse_cons]
theorem stk_len (ts : List PTr) : (stk ts).length = ts.length := by unfold stk; rw [List.length_reverse, List.length_map]
theorem l_ixLast {H : Hp} {Q : VK} {p : Addr} {ds : List PyData} {d : PyData} (h : DL H p (ds ++ [d])) (k : ∀ x, TD H x d → Q x H) : rIxL K (.ref p) (.int (-1)) H Q := by
  obtain ⟨xs, e, t⟩ := h
  obtain ⟨ys, x, rfl, _, t2⟩ := t.unsnoc
  exact w_ixLm (SqL.of e) (k x t2)
def arD (p : List Kd) : PyData := .tuple (p.map Kd.d)
def arsD (c : List G2) (n : Nat) : List PyData := (List.range n).map fun k => arD ((pa c k).headD [])
def pads (ps : List (List Kd)) : List PyData := (ps.map arD).reverse
theorem pads_cons (p : List Kd) (ps : List (List Kd)) : pads (p :: ps) = pads ps ++ [arD p] := by unfold pads; rw [List.map_cons, List.reverse_cons]
theorem pads_len (ps : List (List Kd)) : (pads ps).length = ps.length := by unfold pads; rw [List.length_reverse, List.length_map]
theorem arsD_succ (c : List G2) (n : Nat) : arsD c (n + 1) = arsD c n ++ [arD ((pa c n).headD [])] := by unfold arsD; rw [List.range_succ, List.map_append]; rfl
theorem arsD_len (c : List G2) (n : Nat) : (arsD c n).length = n := by unfold arsD; rw [List.length_map, List.length_range]
theorem arsD_at (c : List G2) {n k : Nat} (h : k < n) : (arsD c n)[k]? = some (arD ((pa c k).headD [])) := by
  unfold arsD; rw [List.getElem?_map, List.getElem?_range h]; rfl
/-- the data of a good code -/
def gd (c : List G2) : List PyData := cd (c.map upR)
theorem gd_at {c : List G2} {i : Nat} {r : G2} (e : c[i]? = some r) : (gd c)[i]? = some (upR r).d := by
  unfold gd cd; rw [List.getElem?_map, List.getElem?_map, e]; rfl
theorem gd_len (c : List G2) : (gd c).length = c.length := by unfold gd cd; rw [List.length_map, List.length_map]
theorem gd_ok (c : List G2) : ∀ r ∈ c.map upR, RowOk r := fun r hr => by
  obtain ⟨g, _, rfl⟩ := List.mem_map.mp hr; exact upR_ok g
/-- a good row's first word -/
def gw : G2 → List Nat
  | .app => wAPP
  | .lam _ => wLAM
  | .tip (.var _ _) => wVAR
  | .tip (.cst _ _) => wCONST
  | .tip (.bnd _) => wBOUND
theorem gw_d (r : G2) : ∃ rest, (upR r).d = .tuple (.str (S (gw r)) :: rest) := by
  cases r with
  | app => exact ⟨_, rfl⟩
  | lam k => exact ⟨_, rfl⟩
  | tip l => cases l <;> exact ⟨_, rfl⟩
theorem gw_tip (l : Lf) : gw (.tip l) ≠ wAPP ∧ gw (.tip l) ≠ wLAM := by
  cases l with
  | var w k => exact ⟨show wVAR ≠ wAPP by decide, show wVAR ≠ wLAM by decide⟩
  | cst w k => exact ⟨show wCONST ≠ wAPP by decide, show wCONST ≠ wLAM by decide⟩
  | bnd i => exact ⟨show wBOUND ≠ wAPP by decide, show wBOUND ≠ wLAM by decide⟩
theorem gd_map (c : List G2) : gd c = cd (c.map upR) := rfl
theorem up_fo {c : List G2} {t : Gt} (h : fo c = [t]) : fo (c.map upR) = [upT t] := by
  show fo (c.map (Rw.map _ _)) = _
  rw [fo_map, h]; rfl
theorem up_fok {c : List G2} {n : Nat} (h : Vc c n) : fok (c.map upR) := (Vc.map (κ' := PyData) (τ' := Tp) Kd.d (fun (l : Lf) => Tp.tip l.d) h).1

def sp_law_built : Sp := sp1 fun x H Q _ => ∃ (p : Addr) (c : List G2) (t : Gt), x = .ref p ∧ DL H p (gd c) ∧ fok c ∧ fo c = [t] ∧ c.length ≤ 50000 ∧ ∀ v H', Same H H' → TD H' v (upT t).d → Q v H'
end
end K03

namespace K03
open PySem PySem.Spec PyProof.Rows L2 SX K02 K01
local macro_rules | `(tactic| walk_at "w1") => `(tactic| (first
  | with_reducible refine w_seq ?_ | with_reducible refine w_asgN ?_ | with_reducible refine w_c ?_
  | ((with_reducible refine' w_var ?wv ?_); (case wv => exact rfl))
  | with_reducible refine w_op ?_ | with_reducible refine w_un ?_ | with_reducible refine w_next ?_ | with_reducible refine w_brk ?_ | with_reducible refine w_cnt ?_
  | with_reducible refine w_ifS ?_ | with_reducible refine w_if ?_ | with_reducible refine w_test ?_ | with_reducible refine w_tB ?_ | with_reducible refine w_bl ?_ | with_reducible refine w_blI ?_
  | with_reducible refine w_and ?_ | with_reducible refine w_or ?_ | with_reducible refine w_not ?_ | with_reducible refine w_andV ?_ | with_reducible refine w_orV ?_ | with_reducible refine w_notV ?_
  | with_reducible refine w_nil ?_ | with_reducible refine w_cons ?_ | with_reducible refine w_cb ?_ | with_reducible refine w_call ?_ | with_reducible refine w_callS ?_ | with_reducible refine w_chain ?_
  | with_reducible refine w_tupN ?_ | with_reducible refine w_lstN ?_ | with_reducible refine w_sl ?_ | with_reducible refine w_noPart ?_ | with_reducible refine w_part ?_ | with_reducible refine w_partI ?_
  | with_reducible refine w_ret ?_ | with_reducible refine w_retN ?_ | with_reducible refine w_drop ?_ | with_reducible refine w_asg ?_ | with_reducible refine w_gSub ?_
  | ((with_reducible refine' w_aug ?wv ?_); (case wv => exact rfl)) | with_reducible refine w_ipI ?_
  | with_reducible refine w_addI ?_ | with_reducible refine w_subI ?_ | with_reducible refine w_ltI ?_ | with_reducible refine w_leI ?_ | with_reducible refine w_gtI ?_ | with_reducible refine w_geI ?_
  | with_reducible refine w_eqI ?_ | with_reducible refine w_neI ?_ | with_reducible refine w_eqT ?_ | with_reducible refine w_neT ?_ | with_reducible refine w_inS ?_ | with_reducible refine w_ninS ?_
  | with_reducible refine w_absI ?_ | with_reducible refine w_intI ?_ | with_reducible refine w_maxI ?_ | with_reducible refine w_minI ?_
  | with_reducible refine w_for ?_ | with_reducible refine w_iR1 ?_ | with_reducible refine w_iR2 ?_ | with_reducible refine w_iStr ?_ | with_reducible refine w_strI ?_ | with_reducible refine w_iList ?_ | with_reducible refine w_iTup ?_
  | with_reducible refine w_bm ?_ | with_reducible refine w_bm0 ?_ | with_reducible refine w_t ?_ | with_reducible refine w_f ?_ | with_reducible refine w_nt ?_ | with_reducible refine w_nx ?_ | with_reducible refine w_rt ?_ | with_reducible refine w_bk ?_ | with_reducible refine w_ct ?_ | with_reducible refine w_nf ?_ | with_reducible refine w_lc ?_ | with_reducible refine w_yes ?_ | with_reducible refine w_neg ?_ | with_reducible refine w_intB ?_ | with_reducible refine w_fld ?_ | with_reducible refine w_setf ?_ | with_reducible refine w_faug ?_ | with_reducible refine w_meth ?_ | with_reducible refine w_bmS ?_ | with_reducible refine w_start ?_ | with_reducible refine w_revL ?_ | with_reducible refine w_iR3 ?_))
local macro_rules | `(tactic| walk_at "w") => `(tactic| (repeat (first | walk_at "w1" | dsimp (config := { proj := false }) only [List.set_cons_zero, List.set_cons_succ])))
section
variable {w : World} [Lit] {mg : Str → Option Value} {base : Heap}
/-- n kinds of at most m parts -/
def KL (H : Hp) (p : Addr) (n m : Nat) : Prop := ∃ ks : List Kd, DL H p (ks.map Kd.d) ∧ ks.length = n ∧ ∀ k ∈ ks, k.ok ∧ k.sz ≤ m
abbrev PoL (H : Hp) (p : Addr) : Prop := KL H p 4 5
section
variable {n m : Nat} {H H' : Hp} {p a : Addr}
theorem KL.same (h : KL H p n m) (s : Same H H') : KL H' p n m := let ⟨ws, h1, h2⟩ := h; ⟨ws, h1.same s, h2⟩
theorem KL.kb (h : KL H p n m) (P : Pot a H) (k : Kb a H H') (z : p ≠ a) : KL H' p n m := let ⟨ws, h1, h2⟩ := h; ⟨ws, DLkb h1 P k z, h2⟩
theorem KL.ex {q : Addr} (h : KL H p n m) (x : Ex q H H') (z : p ≠ q) {xs : List V} (hq : H q = some (.lst xs)) : KL H' p n m := let ⟨ws, h1, h2⟩ := h; ⟨ws, h1.ex x z hq, h2⟩
theorem DL.ne_pot {ds : List PyData} (h : DL H p ds) (P : Pot a H) (hn : ∀ i : Int, ds[0]? ≠ some (.int i)) : p ≠ a := fun z => by
  obtain ⟨xs, e, t⟩ := h
  obtain ⟨r, s, c, h1, _⟩ := P
  subst z
  rw [h1] at e
  cases e
  obtain ⟨d, e, td⟩ := t.get' (i := 0) (x := .int r) rfl
  cases td
  exact hn _ e
theorem KL.ne (h : KL H p n m) (P : Pot a H) (hn : 0 < n) : p ≠ a := by
  obtain ⟨ks, h1, h2, h3⟩ := h
  refine DL.ne_pot h1 P fun i z => ?_
  cases ks with
  | nil => have h2 : 0 = n := h2; omega
  | cons k ks => cases k <;> simp [Kd.d] at z
theorem KL.ix {Q : VK} (h : KL H p n m) {i : Nat} (hi : i < n) (k : ∀ x (kd : Kd), kd.ok → kd.sz ≤ m → TD H x kd.d → Q x H) : rIxL K (.ref p) (.int (i : Int)) H Q := by
  obtain ⟨ks, h1, h2, h3⟩ := h
  have hi' : i < ks.length := by omega
  refine l_ix h1 (d := ks[i].d) (by rw [List.getElem?_map, List.getElem?_eq_getElem hi']; rfl) (fun x tx => ?_)
  exact k x _ (h3 _ (List.getElem_mem hi')).1 (h3 _ (List.getElem_mem hi')).2 tx
theorem KL.app {v : V} {k : Kd} {Q : VK} (h : KL H p n m) (hv : TD H v k.d) (hk : k.ok ∧ k.sz ≤ m) (hn : n ≤ 1000) (c : ∀ H', KL H' p (n + 1) m → Ex p H H' → Q .non H') : rAppend (.ref p) [v] H Q := by
  obtain ⟨ks, h1, h2, h3⟩ := h
  refine l_app h1 hv (fun H' d x => ?_) (by rw [List.length_map]; omega)
  refine c H' ⟨ks ++ [k], by rw [List.map_append]; exact d, by rw [List.length_append, h2]; rfl, fun k' hk' => ?_⟩ x
  rcases List.mem_append.mp hk' with hk' | hk'
  · exact h3 k' hk'
  · rw [List.mem_singleton.mp hk']; exact hk
theorem KL.lst (h : KL H p n m) : ∃ xs, H p = some (.lst xs) := let ⟨_, h1, _⟩ := h; h1.lst
theorem KL.ty {F : Prop} (h : KL H p n m) (k : F) : tyV K "list" (.ref p) H ∧ F := let ⟨_, h1, _⟩ := h; l_ty h1 k
end
def sp_law_pool : Sp := sp2 fun x y H Q _ => ∃ (a p : Addr), x = .ref a ∧ y = .ref p ∧ Pot a H ∧ NmL H p ∧ ∀ q H', H q = none → PoL H' q → Pot a H' → Kb a H H' → Q (.ref q) H'
theorem ok_law_pool (T : Txt w K mg) {fd : FuncData} (F : Fn_law_pool K fd) (hm : mg "_law_pool" = some (.ref (He.ga K "_law_pool"))) (c_law_take : CalX P w K mg base CX0 1 "_law_take" sp_law_take) : CalX P w K mg base CX0 2 "_law_pool" sp_law_pool := by
  refine calx0 (k := 1) F hm sc_law_pool (b_law_pool F) (fun _ _ _ _ h => sp2_len h) (fun cdv A outer s H vs Q E hr h => ?_)
  obtain ⟨x0, x1, rfl, h⟩ := h
  refine ⟨_, (pss_cons (ps_set (i := 2) sc_law_pool.nd rfl (Or.inl rfl) (pe_lst (pa_cons (pe_tup (pa_cons pe_str (pa_cons (pe_ix ix_list (pv 1) pe_int (fun _ _ => rfl)) pa_nil))) (pa_cons (pe_tup (pa_cons pe_str (pa_cons (pe_ix ix_list (pv 1) pe_int (fun _ _ => rfl)) pa_nil))) (pa_cons (pe_tup (pa_cons pe_str (pa_cons (pe_ix ix_list (pv 1) pe_int (fun _ _ => rfl)) pa_nil))) (pa_cons (pe_tup (pa_cons pe_str (pa_cons (pe_ix ix_list (pv 1) pe_int (fun _ _ => rfl)) pa_nil))) pa_nil))))))
    (pss_cons (ps_expr (pe_bm PySem.F.plainAttrs_list PySem.F.slot_list_append PySem.F.type_list_append mt_append (pv 2) (pa_cons (pe_tup (pa_cons pe_str (pa_cons pe_str pa_nil))) pa_nil)))
    (pss_cons (ps_set (i := 3) sc_law_pool.nd rfl (Or.inl rfl) (pe_lst (pa_cons (pe_ix ix_list (pv 2) (pe_cx c_law_take hr (by decide) rfl pass0 (pa_cons (pv 0) (pa_cons pe_int pa_nil))) (fun _ _ => rfl)) pa_nil)))
    (pss_cons (ps_for PassesOwn.never rfl (pi_range1 (by rfl) T.f_range (pa_cons pe_int pa_nil)) (pg_name (i := 4) sc_law_pool.nd rfl (Or.inl rfl))
    (pss_cons (ps_set (i := 5) sc_law_pool.nd rfl (Or.inl rfl) (pe_ix ix_list (pv 2) (pe_cx c_law_take hr (by decide) rfl pass0 (pa_cons (pv 0) (pa_cons pe_int pa_nil))) (fun _ _ => rfl)))
    (pss_cons (ps_set (i := 6) sc_law_pool.nd rfl (Or.inl rfl) (pe_ix ix_list (pv 2) (pe_cx c_law_take hr (by decide) rfl pass0 (pa_cons (pv 0) (pa_cons pe_int pa_nil))) (fun _ _ => rfl)))
    (pss_cons (ps_set (i := 7) sc_law_pool.nd rfl (Or.inl rfl) (pe_cx c_law_take hr (by decide) rfl pass0 (pa_cons (pv 0) (pa_cons pe_int pa_nil))))
    (pss_one (ps_if (pt_cmpR op_eq (pv 7) pe_int (nomark _))
    (pss_one (ps_expr (pe_bm PySem.F.plainAttrs_list PySem.F.slot_list_append PySem.F.type_list_append mt_append (pv 3) (pa_cons (pe_tup (pa_cons pe_str (pa_cons (pv 5) (pa_cons (pv 6) pa_nil)))) pa_nil))))
    (pss_one (ps_if (pt_cmpR op_eq (pv 7) pe_int (nomark _))
    (pss_one (ps_expr (pe_bm PySem.F.plainAttrs_list PySem.F.slot_list_append PySem.F.type_list_append mt_append (pv 3) (pa_cons (pe_tup (pa_cons pe_str (pa_cons (pe_tup (pa_cons pe_str (pa_cons (pv 5) (pa_cons (pv 6) pa_nil)))) (pa_cons (pv 5) pa_nil)))) pa_nil))))
    (pss_one (ps_if (pt_cmpR op_eq (pv 7) pe_int (nomark _))
    (pss_one (ps_expr (pe_bm PySem.F.plainAttrs_list PySem.F.slot_list_append PySem.F.type_list_append mt_append (pv 3) (pa_cons (pe_tup (pa_cons pe_str (pa_cons (pv 5) (pa_cons (pe_tup (pa_cons pe_str (pa_cons (pv 6) (pa_cons (pv 5) pa_nil)))) pa_nil)))) pa_nil))))
    (pss_one (ps_expr (pe_bm PySem.F.plainAttrs_list PySem.F.slot_list_append PySem.F.type_list_append mt_append (pv 3) (pa_cons (pv 5) pa_nil))))))))))))))
    (pss_one (ps_ret (pv 3))))))), ?_⟩
  rw [show start ["pot", "words", "leaves", "pool", "k", "one", "other", "way"] [x0, x1] = [some x0, some x1, none, none, none, none, none, none] from rfl]
  have ec0 : Str.ofString "named" = S [110,97,109,101,100] := S_ofs (by decide +kernel)
  have ec1 : Str.ofString "free" = S [102,114,101,101] := S_ofs (by decide +kernel)
  have ec2 : Str.ofString "bool" = S [98,111,111,108] := S_ofs (by decide +kernel)
  have ec3 : Str.ofString "to" = S [116,111] := S_ofs (by decide +kernel)
  rw [ec0, ec1, ec2, ec3]
  obtain ⟨a, p, rfl, rfl, hP, hW, hQ⟩ := h
  try dsimp only [cxOf]
  walk_at "w"
  refine hW.ix (i := 0) (by omega) (fun w0 n0 => ?_)
  walk_at "w"
  refine t_new (ds := [.str (S wNAMED), .str (S w0)]) (.cons (.str _) (.cons (.str _) .nil)) (fun p1 H1 hp1 s1 t1 => ?_)
  walk_at "w"
  refine (hW.same s1).ix (i := 0) (by omega) (fun w1 n1 => ?_)
  walk_at "w"
  refine t_new (ds := [.str (S wFREE), .str (S w1)]) (.cons (.str _) (.cons (.str _) .nil)) (fun p2 H2 hp2 s2 t2 => ?_)
  walk_at "w"
  refine (hW.same (s1.tr s2)).ix (i := 1) (by omega) (fun w2 n2 => ?_)
  walk_at "w"
  refine t_new (ds := [.str (S wNAMED), .str (S w2)]) (.cons (.str _) (.cons (.str _) .nil)) (fun p3 H3 hp3 s3 t3 => ?_)
  walk_at "w"
  refine (hW.same ((s1.tr s2).tr s3)).ix (i := 2) (by omega) (fun w3 n3 => ?_)
  walk_at "w"
  refine t_new (ds := [.str (S wFREE), .str (S w3)]) (.cons (.str _) (.cons (.str _) .nil)) (fun p4 H4 hp4 s4 t4 => ?_)
  walk_at "w"
  refine l_new (ds := [Kd.nm w0, Kd.fr w1, Kd.nm w2, Kd.fr w3].map Kd.d) (.cons (t1.tm (Tm.same ((s2.tr s3).tr s4))) (.cons (t2.tm (Tm.same (s3.tr s4))) (.cons (t3.tm (Tm.same s4)) (.cons t4 .nil)))) (fun l5 H5 hl5 s5 d5 => ?_)
  walk_at "w"
  have L5 : KL H5 l5 4 1 := ⟨_, d5, rfl, fun k hk => by
    simp only [List.mem_cons, List.not_mem_nil, or_false] at hk
    rcases hk with rfl | rfl | rfl | rfl
    · exact ⟨.inl n0, Nat.le_refl _⟩
    · exact ⟨n1, Nat.le_refl _⟩
    · exact ⟨.inl n2, Nat.le_refl _⟩
    · exact ⟨n3, Nat.le_refl _⟩⟩
  have s05 := (((s1.tr s2).tr s3).tr s4).tr s5
  refine L5.ty ?_
  walk_at "w"
  refine t_new (ds := [.str (S wNAMED), .str (S wBOOL)]) (.cons (.str _) (.cons (.str _) .nil)) (fun p6 H6 hp6 s6 t6 => ?_)
  walk_at "w"
  refine (L5.same s6).app (k := .nm wBOOL) t6 ⟨.inr rfl, Nat.le_refl _⟩ (by omega) (fun H7 L7 x7 => ?_)
  walk_at "w"
  have fr : ∀ {q : Addr} {Ha Hb : Hp}, Same Ha Hb → Hb q = none → Ha q = none := fun {q Ha Hb} s z => by
    cases e : Ha q with
    | none => rfl
    | some o => rw [s q o e] at z; cases z
  have hl0 : H l5 = none := fr (((s1.tr s2).tr s3).tr s4) hl5
  have s07 := (s05.tr s6).ex hl0 x7
  have P7 := hP.same s07
  have k07 : Kb a H H7 := Kb.same s07
  refine ⟨_, _, rfl, a, 5, rfl, rfl, by omega, by omega, P7, fun v8 H8 hv8 P8 k8 => ?_⟩
  walk_at "w"
  have hla : l5 ≠ a := L7.ne P7 (by omega)
  have L8 := L7.kb P7 k8 hla
  refine L8.ix hv8 (fun x9 kd9 ok9 sz9 t9 => ?_)
  walk_at "w"
  refine l_new (ds := [kd9].map Kd.d) (.cons t9 .nil) (fun q H9 hq s9 d9 => ?_)
  walk_at "w"
  have q0 : H q = none := Kb.none (k07.tr k8) P8 hq
  have hql : l5 ≠ q := fun z => by obtain ⟨_, e⟩ := L8.lst; rw [z, hq] at e; cases e
  have K9 : KL H9 q 1 5 := ⟨[kd9], d9, rfl, fun k hk => by rw [List.mem_singleton.mp hk]; exact ⟨ok9, by omega⟩⟩
  refine w_rg1 (by omega) (by omega) ?_
  refine for_range (fun i σ H' => ∃ (v4 v5 v6 v7 : Option V), σ = [some (.ref a), some (.ref p), some (.ref l5), some (.ref q), v4, v5, v6, v7] ∧ KL H' l5 5 1 ∧ KL H' q (i + 1) 5 ∧ Pot a H' ∧ Kb a H H')
    ⟨_, _, _, _, rfl, L8.same s9, K9, P8.same s9, (k07.tr k8).then s9⟩ ?_ ?_
  · rintro i σ G hi ⟨v4, v5, v6, v7, rfl, L, Kq, P0, k0⟩
    have hi : i < 3 := hi
    dsimp only [gName]
    walk_at "w"
    refine ⟨_, _, rfl, a, 5, rfl, rfl, by omega, by omega, P0, fun va1 Ha1 hva1 Pa1 ka1 => ?_⟩
    walk_at "w"
    have La := L.kb P0 ka1 (L.ne P0 (by omega))
    have Ka := Kq.kb P0 ka1 (Kq.ne P0 (by omega))
    refine La.ix hva1 (fun xo ko oko szo to => ?_)
    walk_at "w"
    refine ⟨_, _, rfl, a, 5, rfl, rfl, by omega, by omega, Pa1, fun va2 Ha2 hva2 Pa2 ka2 => ?_⟩
    walk_at "w"
    have Lb := La.kb Pa1 ka2 (L.ne P0 (by omega))
    have Kb2 := Ka.kb Pa1 ka2 (Kq.ne P0 (by omega))
    have to2 := to.tm (Kb.pot_tm Pa1 ka2)
    refine Lb.ix hva2 (fun xh kh okh szh th => ?_)
    walk_at "w"
    refine ⟨_, _, rfl, a, 4, rfl, rfl, by omega, by omega, Pa2, fun va3 Ha3 hva3 Pa3 ka3 => ?_⟩
    walk_at "w"
    have Lc := Lb.kb Pa2 ka3 (L.ne P0 (by omega))
    have Kc := Kb2.kb Pa2 ka3 (Kq.ne P0 (by omega))
    have to3 := to2.tm (Kb.pot_tm Pa2 ka3)
    have th3 := th.tm (Kb.pot_tm Pa2 ka3)
    have k3 := ((k0.tr ka1).tr ka2).tr ka3
    have hqa : q ≠ a := Kc.ne Pa3 (by omega)
    have put : ∀ {G' : Hp} {v : V} {k : Kd} {Q : VK}, Same Ha3 G' → TD G' v k.d → k.ok → k.sz ≤ 5 → (∀ H', KL H' l5 5 1 → KL H' q (i + 1 + 1) 5 → Pot a H' → Kb a H H' → Q .non H') → rAppend (.ref q) [v] G' Q := fun {G' v k Q} s tv h1 h2 hc => by
      refine (Kc.same s).app tv ⟨h1, h2⟩ (by omega) (fun H' K' x' => ?_)
      obtain ⟨_, ql⟩ := (Kc.same s).lst
      exact hc H' ((Lc.same s).ex x' hql ql) K' ((Pa3.same s).ex x' hqa.symm) ((k3.then s).ex q0 x')
    by_cases h0 : (va3 : Int) = 0
    · rw [decide_eq_true h0]
      walk_at "w"
      refine Kc.ty ?_
      walk_at "w"
      refine t_new (ds := [.str (S wTO), ko.d, kh.d]) (.cons (.str _) (.cons to3 (.cons th3 .nil))) (fun pt G1 hpt st tt => ?_)
      walk_at "w"
      refine put (k := .to ko kh) st tt ⟨oko, okh⟩ (by show ko.sz + kh.sz + 1 ≤ 5; omega) (fun H' a1 a2 a3 a4 => ?_)
      walk_at "w"
      exact ⟨_, _, _, _, rfl, a1, a2, a3, a4⟩
    rw [decide_eq_false h0]
    walk_at "w"
    by_cases h1 : (va3 : Int) = 1
    · rw [decide_eq_true h1]
      walk_at "w"
      refine Kc.ty ?_
      walk_at "w"
      refine t_new (ds := [.str (S wTO), ko.d, kh.d]) (.cons (.str _) (.cons to3 (.cons th3 .nil))) (fun pt G1 hpt st tt => ?_)
      walk_at "w"
      refine t_new (ds := [.str (S wTO), (Kd.to ko kh).d, ko.d]) (.cons (.str _) (.cons tt (.cons (to3.tm (Tm.same st)) .nil))) (fun pt2 G2 hpt2 st2 tt2 => ?_)
      walk_at "w"
      refine put (k := .to (.to ko kh) ko) (st.tr st2) tt2 ⟨⟨oko, okh⟩, oko⟩ (by show ko.sz + kh.sz + 1 + ko.sz + 1 ≤ 5; omega) (fun H' a1 a2 a3 a4 => ?_)
      walk_at "w"
      exact ⟨_, _, _, _, rfl, a1, a2, a3, a4⟩
    rw [decide_eq_false h1]
    walk_at "w"
    by_cases h2 : (va3 : Int) = 2
    · rw [decide_eq_true h2]
      walk_at "w"
      refine Kc.ty ?_
      walk_at "w"
      refine t_new (ds := [.str (S wTO), kh.d, ko.d]) (.cons (.str _) (.cons th3 (.cons to3 .nil))) (fun pt G1 hpt st tt => ?_)
      walk_at "w"
      refine t_new (ds := [.str (S wTO), ko.d, (Kd.to kh ko).d]) (.cons (.str _) (.cons (to3.tm (Tm.same st)) (.cons tt .nil))) (fun pt2 G2 hpt2 st2 tt2 => ?_)
      walk_at "w"
      refine put (k := .to ko (.to kh ko)) (st.tr st2) tt2 ⟨oko, ⟨okh, oko⟩⟩ (by show ko.sz + (kh.sz + ko.sz + 1) + 1 ≤ 5; omega) (fun H' a1 a2 a3 a4 => ?_)
      walk_at "w"
      exact ⟨_, _, _, _, rfl, a1, a2, a3, a4⟩
    rw [decide_eq_false h2]
    walk_at "w"
    refine Kc.ty ?_
    walk_at "w"
    refine put (k := ko) (Same.refl _) to3 oko (by omega) (fun H' a1 a2 a3 a4 => ?_)
    walk_at "w"
    exact ⟨_, _, _, _, rfl, a1, a2, a3, a4⟩
  · rintro σ G ⟨v4, v5, v6, v7, rfl, L, Kq, P0, k0⟩
    walk_at "w"
    exact hQ q G q0 Kq P0 k0
end
end K03

namespace K03
open PySem PySem.Spec PyProof.Rows L2 SX K02 K01
local macro_rules | `(tactic| walk_at "w1") => `(tactic| (first
  | with_reducible refine w_seq ?_ | with_reducible refine w_asgN ?_ | with_reducible refine w_c ?_
  | ((with_reducible refine' w_var ?wv ?_); (case wv => exact rfl))
  | with_reducible refine w_op ?_ | with_reducible refine w_un ?_ | with_reducible refine w_next ?_ | with_reducible refine w_brk ?_ | with_reducible refine w_cnt ?_
  | with_reducible refine w_ifS ?_ | with_reducible refine w_if ?_ | with_reducible refine w_test ?_ | with_reducible refine w_tB ?_ | with_reducible refine w_bl ?_ | with_reducible refine w_blI ?_
  | with_reducible refine w_and ?_ | with_reducible refine w_or ?_ | with_reducible refine w_not ?_ | with_reducible refine w_andV ?_ | with_reducible refine w_orV ?_ | with_reducible refine w_notV ?_
  | with_reducible refine w_nil ?_ | with_reducible refine w_cons ?_ | with_reducible refine w_cb ?_ | with_reducible refine w_call ?_ | with_reducible refine w_callS ?_ | with_reducible refine w_chain ?_
  | with_reducible refine w_tupN ?_ | with_reducible refine w_lstN ?_ | with_reducible refine w_sl ?_ | with_reducible refine w_noPart ?_ | with_reducible refine w_part ?_ | with_reducible refine w_partI ?_
  | with_reducible refine w_ret ?_ | with_reducible refine w_retN ?_ | with_reducible refine w_drop ?_ | with_reducible refine w_asg ?_ | with_reducible refine w_gSub ?_
  | ((with_reducible refine' w_aug ?wv ?_); (case wv => exact rfl)) | with_reducible refine w_ipI ?_
  | with_reducible refine w_addI ?_ | with_reducible refine w_subI ?_ | with_reducible refine w_ltI ?_ | with_reducible refine w_leI ?_ | with_reducible refine w_gtI ?_ | with_reducible refine w_geI ?_
  | with_reducible refine w_eqI ?_ | with_reducible refine w_neI ?_ | with_reducible refine w_eqT ?_ | with_reducible refine w_neT ?_ | with_reducible refine w_inS ?_ | with_reducible refine w_ninS ?_
  | with_reducible refine w_absI ?_ | with_reducible refine w_intI ?_ | with_reducible refine w_maxI ?_ | with_reducible refine w_minI ?_
  | with_reducible refine w_for ?_ | with_reducible refine w_iR1 ?_ | with_reducible refine w_iR2 ?_ | with_reducible refine w_iStr ?_ | with_reducible refine w_strI ?_ | with_reducible refine w_iList ?_ | with_reducible refine w_iTup ?_
  | with_reducible refine w_bm ?_ | with_reducible refine w_bm0 ?_ | with_reducible refine w_t ?_ | with_reducible refine w_f ?_ | with_reducible refine w_nt ?_ | with_reducible refine w_nx ?_ | with_reducible refine w_rt ?_ | with_reducible refine w_bk ?_ | with_reducible refine w_ct ?_ | with_reducible refine w_nf ?_ | with_reducible refine w_lc ?_ | with_reducible refine w_yes ?_ | with_reducible refine w_neg ?_ | with_reducible refine w_intB ?_ | with_reducible refine w_fld ?_ | with_reducible refine w_setf ?_ | with_reducible refine w_faug ?_ | with_reducible refine w_meth ?_ | with_reducible refine w_bmS ?_ | with_reducible refine w_start ?_ | with_reducible refine w_revL ?_ | with_reducible refine w_iR3 ?_))
local macro_rules | `(tactic| walk_at "w") => `(tactic| (repeat (first | walk_at "w1" | dsimp (config := { proj := false }) only [List.set_cons_zero, List.set_cons_succ])))
section
variable {w : World} [Lit] {mg : Str → Option Value} {base : Heap}
local macro_rules | `(tactic| walk_at "v1") => `(tactic| (first
  | with_reducible refine w_seq ?_ | with_reducible refine w_asgN ?_ | with_reducible refine w_c ?_
  | ((with_reducible refine' w_var ?wv ?_); (case wv => exact rfl))
  | with_reducible refine w_op ?_ | with_reducible refine w_un ?_ | with_reducible refine w_next ?_ | with_reducible refine w_brk ?_ | with_reducible refine w_cnt ?_
  | with_reducible refine w_ifS ?_ | with_reducible refine w_if ?_ | with_reducible refine w_test ?_ | with_reducible refine w_tB ?_ | with_reducible refine w_bl ?_ | with_reducible refine w_blI ?_
  | with_reducible refine w_and ?_ | with_reducible refine w_or ?_ | with_reducible refine w_not ?_ | with_reducible refine w_andV ?_ | with_reducible refine w_orV ?_ | with_reducible refine w_notV ?_
  | with_reducible refine w_nil ?_ | with_reducible refine w_cons ?_ | with_reducible refine w_cb ?_ | with_reducible refine w_call ?_ | with_reducible refine w_callS ?_ | with_reducible refine w_chain ?_
  | with_reducible refine w_sl ?_ | with_reducible refine w_noPart ?_ | with_reducible refine w_part ?_ | with_reducible refine w_partI ?_
  | with_reducible refine w_ret ?_ | with_reducible refine w_retN ?_ | with_reducible refine w_drop ?_ | with_reducible refine w_asg ?_ | with_reducible refine w_gSub ?_
  | ((with_reducible refine' w_aug ?wv ?_); (case wv => exact rfl)) | with_reducible refine w_ipI ?_
  | with_reducible refine w_addI ?_ | with_reducible refine w_subI ?_ | with_reducible refine w_ltI ?_ | with_reducible refine w_leI ?_ | with_reducible refine w_gtI ?_ | with_reducible refine w_geI ?_
  | with_reducible refine w_eqI ?_ | with_reducible refine w_neI ?_ | with_reducible refine w_eqT ?_ | with_reducible refine w_neT ?_ | with_reducible refine w_inS ?_ | with_reducible refine w_ninS ?_
  | with_reducible refine w_absI ?_ | with_reducible refine w_intI ?_ | with_reducible refine w_maxI ?_ | with_reducible refine w_minI ?_
  | with_reducible refine w_for ?_ | with_reducible refine w_iR1 ?_ | with_reducible refine w_iR2 ?_ | with_reducible refine w_iStr ?_ | with_reducible refine w_strI ?_ | with_reducible refine w_iList ?_ | with_reducible refine w_iTup ?_
  | with_reducible refine w_bm ?_ | with_reducible refine w_bm0 ?_ | with_reducible refine w_t ?_ | with_reducible refine w_f ?_ | with_reducible refine w_nt ?_ | with_reducible refine w_nx ?_ | with_reducible refine w_rt ?_ | with_reducible refine w_bk ?_ | with_reducible refine w_ct ?_ | with_reducible refine w_nf ?_ | with_reducible refine w_lc ?_ | with_reducible refine w_yes ?_ | with_reducible refine w_neg ?_ | with_reducible refine w_intB ?_ | with_reducible refine w_fld ?_ | with_reducible refine w_setf ?_ | with_reducible refine w_faug ?_ | with_reducible refine w_meth ?_ | with_reducible refine w_bmS ?_ | with_reducible refine w_start ?_ | with_reducible refine w_revL ?_ | with_reducible refine w_iR3 ?_))
local macro_rules | `(tactic| walk_at "v") => `(tactic| (repeat (first | walk_at "v1" | dsimp (config := { proj := false }) only [List.set_cons_zero, List.set_cons_succ])))
local macro_rules | `(tactic| walk_at "d") => `(tactic| (repeat (first | exact eva_nil | refine eva_cons ?_ ?_ | exact ev_str | exact ev_int | exact ev_neg | refine ev_tup ?_ | (refine ev_var rfl ?_; assumption))))

/-- a list of words, all usable as constants -/
def CL (H : Hp) (p : Addr) (n : Nat) : Prop := ∃ ws : List (List Nat), DL H p (ws.map fun w => PyData.str (S w)) ∧ ws.length = n ∧ ∀ w ∈ ws, isName w = true ∨ w ∈ LOGIC
theorem CL.ix {Q : VK} {H : Hp} {p : Addr} {n : Nat} (h : CL H p n) {i : Nat} (hi : i < n) (k : ∀ w, (isName w = true ∨ w ∈ LOGIC) → Q (.str (S w)) H) : rIxL K (.ref p) (.int (i : Int)) H Q := by
  obtain ⟨ws, h1, h2, h3⟩ := h
  have hi' : i < ws.length := by omega
  refine l_ix h1 (d := .str (S ws[i])) (by rw [List.getElem?_map, List.getElem?_eq_getElem hi']; rfl) (fun x tx => ?_)
  rw [tx.txt]
  exact k _ (h3 _ (List.getElem_mem hi'))
theorem CL.len {Q : VK} {H : Hp} {p : Addr} {n : Nat} (h : CL H p n) (k : Q (.int (n : Int)) H) : rLenQ K [.ref p] H Q := by
  obtain ⟨ws, h1, h2, h3⟩ := h
  refine l_len h1 ?_
  rw [List.length_map, h2]; exact k
/-- the four words, told -/
def NmW (ws : List (List Nat)) (H : Hp) (p : Addr) : Prop := DL H p (ws.map fun w => PyData.str (S w)) ∧ ws.length = 4 ∧ ∀ w ∈ ws, isName w = true
section
variable {ws : List (List Nat)} {H H' : Hp} {p : Addr}
theorem NmW.same (h : NmW ws H p) (s : Same H H') : NmW ws H' p := ⟨h.1.same s, h.2⟩
theorem NmW.kb {a : Addr} (h : NmW ws H p) (P : Pot a H) (k : Kb a H H') (n : p ≠ a) : NmW ws H' p := ⟨DLkb h.1 P k n, h.2⟩
theorem NmW.ex {q : Addr} (h : NmW ws H p) (x : Ex q H H') (n : p ≠ q) {xs : List V} (hq : H q = some (.lst xs)) : NmW ws H' p := ⟨h.1.ex x n hq, h.2⟩
theorem NmW.nm (h : NmW ws H p) : NmL H p := ⟨ws, h⟩
theorem NmW.ne {a : Addr} (h : NmW ws H p) (P : Pot a H) : p ≠ a := h.nm.ne P
theorem NmW.ix {Q : VK} (h : NmW ws H p) {i : Nat} (hi : i < 4) (k : ∀ w, isName w = true ∧ w ∈ ws → Q (.str (S w)) H) : rIxL K (.ref p) (.int (i : Int)) H Q := by
  obtain ⟨h1, h2, h3⟩ := h
  have hi' : i < ws.length := by omega
  refine l_ix h1 (d := .str (S ws[i])) (by rw [List.getElem?_map, List.getElem?_eq_getElem hi']; rfl) (fun x tx => ?_)
  rw [tx.txt]
  exact k _ ⟨h3 _ (List.getElem_mem hi'), List.getElem_mem hi'⟩
end
/-- its names are among the words -/
def lw (ws : List (List Nat)) : Lf → Prop
  | .var w _ => w ∈ ws
  | _ => True
theorem GK.sz180 {k : Kd} (h : GK k) : Sz 180 k.d := Kd.Sz h.1 (by have := k.ht_sz; have := h.2; omega)
abbrev bK : Kd := .nm wBOOL
theorem bK_ok : bK.ok := .inr rfl
abbrev gTRUE : List Nat := [116,114,117,101]
abbrev gFALSE : List Nat := [102,97,108,115,101]
abbrev gNOT : List Nat := [126]
abbrev gAND : List Nat := [38]
abbrev gOR : List Nat := [124]
abbrev gIMP : List Nat := [61,62]
abbrev gEQ : List Nat := [61]
abbrev gALL : List Nat := [97,108,108]
abbrev gSOME : List Nat := [115,111,109,101]
/-- a logical word at a kind that it may have -/
inductive fitsL : List Nat → Kd → Prop
  | t {w : List Nat} (h : w = gTRUE ∨ w = gFALSE) : fitsL w bK
  | not : fitsL gNOT (.to bK bK)
  | two {w : List Nat} (h : w = gAND ∨ w = gOR ∨ w = gIMP) : fitsL w (.to bK (.to bK bK))
  | eq (k : Kd) : fitsL gEQ (.to k (.to k bK))
  | q {w : List Nat} (k : Kd) (h : w = gALL ∨ w = gSOME) : fitsL w (.to (.to k bK) bK)
theorem fitsL.mem {w : List Nat} {k : Kd} (h : fitsL w k) : w ∈ LOGIC := by
  cases h with
  | t h => rcases h with rfl | rfl <;> decide
  | not => decide
  | two h => rcases h with rfl | rfl | rfl <;> decide
  | eq k => decide
  | q k h => rcases h with rfl | rfl <;> decide
/-- its constants: names, or logical words at their kinds -/
def lgc : Lf → Prop
  | .cst w k => isName w = true ∨ fitsL w k
  | _ => True
def sp_law_signs : Sp := sp1 fun x H Q _ => ∃ k : Kd, TD H x k.d ∧ GK k ∧ ∀ q H' (gs : List (List Nat)), H q = none → Same H H' → DL H' q (gs.map fun w => PyData.str (S w)) → gs.length ≤ 4 → (∀ w ∈ gs, fitsL w k) → Q (.ref q) H'
theorem sz_lit {k : Kd} (h : k.ok) (z : k.sz ≤ 100) : Sz 180 k.d := GK.sz180 ⟨h, z⟩
theorem ok_law_signs (T : Txt w K mg) {fd : FuncData} (F : Fn_law_signs K fd) (hm : mg "_law_signs" = some (.ref (He.ga K "_law_signs")))  : CalX P w K mg base CX0 1 "_law_signs" sp_law_signs := by
  refine calx0 (k := 0) F hm sc_law_signs (b_law_signs F) (fun _ _ _ _ h => sp1_len h) (fun cdv A outer s H vs Q E hr h => ?_)
  obtain ⟨x0, rfl, h⟩ := h
  refine ⟨_, (pss_cons (ps_set (i := 1) sc_law_signs.nd rfl (Or.inl rfl) (pe_tup (pa_cons pe_str (pa_cons pe_str pa_nil))))
    (pss_cons (ps_set (i := 2) sc_law_signs.nd rfl (Or.inl rfl) (pe_lst pa_nil))
    (Evl.pss_cut (ps_if (pt_cmpR (op_eqN hr) (pv 0) (pv 1) (nomark _))
    (pss_one (ps_set (i := 2) sc_law_signs.nd rfl (Or.inl rfl) (pe_lst (pa_cons pe_str (pa_cons pe_str pa_nil)))))
    (pss_one (ps_if (pt_cmpR (op_eqN hr) (pv 0) (pe_tup (pa_cons pe_str (pa_cons (pv 1) (pa_cons (pv 1) pa_nil)))) (nomark _))
    (pss_one (ps_set (i := 2) sc_law_signs.nd rfl (Or.inl rfl) (pe_lst (pa_cons pe_str pa_nil))))
    (pss_one (ps_if (pt_cmpR (op_eqN hr) (pv 0) (pe_tup (pa_cons pe_str (pa_cons (pv 1) (pa_cons (pe_tup (pa_cons pe_str (pa_cons (pv 1) (pa_cons (pv 1) pa_nil)))) pa_nil)))) (nomark _))
    (pss_one (ps_set (i := 2) sc_law_signs.nd rfl (Or.inl rfl) (pe_lst (pa_cons pe_str (pa_cons pe_str (pa_cons pe_str (pa_cons pe_str pa_nil)))))))
    (pss_one (ps_if (PW.pt (pw_and (pt_cmpR op_eq (pe_ix ix_tup (pv 0) pe_int (fun _ _ => rfl)) pe_str (nomark _)) (pw_and1 (pt_cmpR (op_eqN hr) (pe_ix ix_tup (pv 0) pe_int (fun _ _ => rfl)) (pe_tup (pa_cons pe_str (pa_cons (pe_ix ix_tup (pv 0) pe_int (fun _ _ => rfl)) (pa_cons (pv 1) pa_nil)))) (nomark _)))))
    (pss_one (ps_set (i := 2) sc_law_signs.nd rfl (Or.inl rfl) (pe_lst (pa_cons pe_str pa_nil))))
    (pss_one (ps_if (PW.pt (pw_and (pt_cmpR op_eq (pe_ix ix_tup (pv 0) pe_int (fun _ _ => rfl)) pe_str (nomark _)) (pw_and (pt_cmpR (op_eqN hr) (pe_ix ix_tup (pv 0) pe_int (fun _ _ => rfl)) (pv 1) (nomark _)) (pw_and (pt_cmpR op_eq (pe_ix ix_tup (pe_ix ix_tup (pv 0) pe_int (fun _ _ => rfl)) pe_int (fun _ _ => rfl)) pe_str (nomark _)) (pw_and1 (pt_cmpR (op_eqN hr) (pe_ix ix_tup (pe_ix ix_tup (pv 0) pe_int (fun _ _ => rfl)) pe_int (fun _ _ => rfl)) (pv 1) (nomark _)))))))
    (pss_one (ps_set (i := 2) sc_law_signs.nd rfl (Or.inl rfl) (pe_lst (pa_cons pe_str (pa_cons pe_str pa_nil)))))
    pss_nil)))))))))
    (pss_one (ps_ret (pv 2)))))), ?_⟩
  rw [show start ["kind", "truth", "known"] [x0] = [some x0, none, none] from rfl]
  have ec0 : Str.ofString "named" = S [110,97,109,101,100] := S_ofs (by decide +kernel)
  have ec1 : Str.ofString "bool" = S [98,111,111,108] := S_ofs (by decide +kernel)
  have ec2 : Str.ofString "true" = S [116,114,117,101] := S_ofs (by decide +kernel)
  have ec3 : Str.ofString "false" = S [102,97,108,115,101] := S_ofs (by decide +kernel)
  have ec4 : Str.ofString "to" = S [116,111] := S_ofs (by decide +kernel)
  have ec5 : Str.ofString "~" = S [126] := S_ofs (by decide +kernel)
  have ec6 : Str.ofString "&" = S [38] := S_ofs (by decide +kernel)
  have ec7 : Str.ofString "|" = S [124] := S_ofs (by decide +kernel)
  have ec8 : Str.ofString "=>" = S [61,62] := S_ofs (by decide +kernel)
  have ec9 : Str.ofString "=" = S [61] := S_ofs (by decide +kernel)
  have ec10 : Str.ofString "all" = S [97,108,108] := S_ofs (by decide +kernel)
  have ec11 : Str.ofString "some" = S [115,111,109,101] := S_ofs (by decide +kernel)
  rw [ec0, ec1, ec2, ec3, ec4, ec5, ec6, ec7, ec8, ec9, ec10, ec11]
  obtain ⟨k, hk, hg, hQ⟩ := h
  try dsimp only [cxOf]
  walk_at "v"
  refine ev_go (d := bK.d) (by show Ev _ _ _ (.tuple [.str (S wNAMED), .str (S wBOOL)]); walk_at "d") (fun xb H1 s1 tb => ?_)
  walk_at "v"
  refine ev_lst (ds := []) (by walk_at "d") (fun l0 H2 h2 s2 d2 => ?_)
  walk_at "v"
  have s02 := s1.tr s2
  have hk2 := hk.tm (Tm.same s02)
  have tb2 := tb.tm (Tm.same s2)
  have kgk := GK.sz180 hg
  refine w_mid (fun σ H' => ∃ (q : Addr) (gs : List (List Nat)), σ = [some x0, some xb, some (.ref q)] ∧ H q = none ∧ Same H H' ∧ DL H' q (gs.map fun w => PyData.str (S w)) ∧ gs.length ≤ 4 ∧ ∀ w ∈ gs, fitsL w k) ?_ ?_
  · have fin : ∀ {H' H'' : Hp} {q : Addr} (gs : List (List Nat)), Same H H' → H' q = none → Same H' H'' → DL H'' q (gs.map fun w => PyData.str (S w)) → gs.length ≤ 4 → (∀ w ∈ gs, fitsL w k) → ∃ (q' : Addr) (gs : List (List Nat)), [some x0, some xb, some (.ref q)] = [some x0, some xb, some (.ref q')] ∧ H q' = none ∧ Same H H'' ∧ DL H'' q' (gs.map fun w => PyData.str (S w)) ∧ gs.length ≤ 4 ∧ ∀ w ∈ gs, fitsL w k :=
      fun {H' H'' q} gs s z s' d l f => ⟨q, gs, rfl, s.fresh z, s.tr s', d, l, f⟩
    walk_at "v"
    refine d_eq hk2 tb2 kgk (sz_lit (k := bK) bK_ok (by decide)) ?_
    rw [Kd.eqv]
    walk_at "v"
    refine w_dec (fun e1 => ?_) (fun e1 => ?_)
    · walk_at "v"
      refine ev_lst (ds := [gTRUE, gFALSE].map fun w => PyData.str (S w)) (by walk_at "d") (fun l3 H3 h3 s3 d3 => ?_)
      walk_at "v"
      refine fin [gTRUE, gFALSE] s02 h3 s3 d3 (by simp) (fun w hw => ?_)
      rw [e1]
      exact .t (by simpa using hw)
    walk_at "v"
    refine ev_go (d := (Kd.to bK bK).d) (by show Ev _ _ _ (.tuple [.str (S wTO), bK.d, bK.d]); walk_at "d") (fun x3 H3 s3 t3 => ?_)
    have hk3 := hk2.tm (Tm.same s3)
    have tb3 := tb2.tm (Tm.same s3)
    refine d_eq hk3 t3 kgk (sz_lit (k := .to bK bK) ⟨bK_ok, bK_ok⟩ (by decide)) ?_
    rw [Kd.eqv]
    walk_at "v"
    refine w_dec (fun e2 => ?_) (fun e2 => ?_)
    · walk_at "v"
      refine ev_lst (ds := [gNOT].map fun w => PyData.str (S w)) (by walk_at "d") (fun l4 H4 h4 s4 d4 => ?_)
      walk_at "v"
      refine fin [gNOT] (s02.tr s3) h4 s4 d4 (by simp) (fun w hw => ?_)
      rw [e2, List.mem_singleton.mp hw]
      exact .not
    walk_at "v"
    refine ev_go (d := (Kd.to bK (.to bK bK)).d) (by show Ev _ _ _ (.tuple [.str (S wTO), bK.d, .tuple [.str (S wTO), bK.d, bK.d]]); walk_at "d") (fun x4 H4 s4 t4 => ?_)
    have hk4 := hk3.tm (Tm.same s4)
    have tb4 := tb3.tm (Tm.same s4)
    have s04 := (s02.tr s3).tr s4
    refine d_eq hk4 t4 kgk (sz_lit (k := .to bK (.to bK bK)) ⟨bK_ok, bK_ok, bK_ok⟩ (by decide)) ?_
    rw [Kd.eqv]
    walk_at "v"
    refine w_dec (fun e3 => ?_) (fun e3 => ?_)
    · walk_at "v"
      refine ev_lst (ds := [gAND, gOR, gIMP, gEQ].map fun w => PyData.str (S w)) (by walk_at "d") (fun l5 H5 h5 s5 d5 => ?_)
      walk_at "v"
      refine fin [gAND, gOR, gIMP, gEQ] s04 h5 s5 d5 (by simp) (fun w hw => ?_)
      rw [e3]
      have hw : w = gAND ∨ w = gOR ∨ w = gIMP ∨ w = gEQ := by simpa using hw
      rcases hw with rfl | rfl | rfl | rfl
      · exact .two (.inl rfl)
      · exact .two (.inr (.inl rfl))
      · exact .two (.inr (.inr rfl))
      · exact .eq bK
    walk_at "v"
    have none_ : ∀ {H' : Hp}, Same H2 H' → ∃ (q' : Addr) (gs : List (List Nat)), [some x0, some xb, some (.ref l0)] = [some x0, some xb, some (.ref q')] ∧ H q' = none ∧ Same H H' ∧ DL H' q' (gs.map fun w => PyData.str (S w)) ∧ gs.length ≤ 4 ∧ ∀ w ∈ gs, fitsL w k := fun {H'} s =>
      ⟨l0, [], rfl, s1.fresh h2, s02.tr s, d2.same s, Nat.zero_le _, fun w hw => absurd hw List.not_mem_nil⟩
    have s24 := s3.tr s4
    cases k with
    | nm w =>
      have hk4' : TD H4 x0 (.tuple [.str (S wNAMED), .str (S w)]) := hk4
      refine t_ixS (n := 0) hk4' rfl ?_
      walk_at "v"
      rw [show decide (wNAMED = [116, 111]) = false from by decide]
      walk_at "v"
      refine t_ixS (n := 0) hk4' rfl ?_
      walk_at "v"
      rw [show decide (wNAMED = [116, 111]) = false from by decide]
      walk_at "v"
      exact none_ s24
    | fr w =>
      have hk4' : TD H4 x0 (.tuple [.str (S wFREE), .str (S w)]) := hk4
      refine t_ixS (n := 0) hk4' rfl ?_
      walk_at "v"
      rw [show decide (wFREE = [116, 111]) = false from by decide]
      walk_at "v"
      refine t_ixS (n := 0) hk4' rfl ?_
      walk_at "v"
      rw [show decide (wFREE = [116, 111]) = false from by decide]
      walk_at "v"
      exact none_ s24
    | to a b =>
      have hk4' : TD H4 x0 (.tuple [.str (S wTO), a.d, b.d]) := hk4
      have okab : a.ok ∧ b.ok := hg.1
      have szab : a.sz + b.sz + 1 ≤ 100 := hg.2
      refine t_ixS (n := 0) hk4' rfl ?_
      walk_at "v"
      rw [show decide (wTO = [116, 111]) = true from by decide]
      walk_at "v"
      refine t_ix (n := 2) hk4' rfl (fun y1 ty1 => ?_)
      walk_at "v"
      refine w_tupN ?_
      walk_at "v"
      refine t_ix (n := 1) hk4' rfl (fun y2 ty2 => ?_)
      walk_at "v"
      refine t_new (ds := [.str (S wTO), a.d, bK.d]) (.cons (.str _) (.cons ty2 (.cons tb4 .nil))) (fun p5 H5 hp5 s5 t5 => ?_)
      refine d_eq (ty1.tm (Tm.same s5)) (show TD H5 (.ref p5) (Kd.to a bK).d from t5) (GK.sz180 ⟨okab.2, by omega⟩) (Kd.Sz (k := .to a bK) ⟨okab.1, bK_ok⟩ (by have := a.ht_sz; show max a.ht 1 + 1 ≤ 180; omega)) ?_
      rw [Kd.eqv]
      have hk5 := hk4'.tm (Tm.same s5)
      have tb5 := tb4.tm (Tm.same s5)
      walk_at "v"
      refine w_dec (fun e4 => ?_) (fun e4 => ?_)
      · walk_at "v"
        refine ev_lst (ds := [gEQ].map fun w => PyData.str (S w)) (by walk_at "d") (fun l6 H6 h6 s6 d6 => ?_)
        walk_at "v"
        refine fin [gEQ] (s04.tr s5) h6 s6 d6 (by simp) (fun w hw => ?_)
        rw [e4, List.mem_singleton.mp hw]
        exact .eq a
      walk_at "v"
      refine t_ixS (n := 0) hk5 rfl ?_
      walk_at "v"
      rw [show decide (wTO = [116, 111]) = true from by decide]
      walk_at "v"
      refine t_ix (n := 2) hk5 rfl (fun y3 ty3 => ?_)
      walk_at "v"
      refine d_eq ty3 tb5 (GK.sz180 ⟨okab.2, by omega⟩) (sz_lit (k := bK) bK_ok (by decide)) ?_
      rw [Kd.eqv]
      have s25 := s24.tr s5
      walk_at "v"
      refine w_dec (fun e5 => ?_) (fun e5 => ?_)
      · walk_at "v"
        refine t_ix (n := 1) hk5 rfl (fun y4 ty4 => ?_)
        walk_at "v"
        cases a with
        | nm w =>
          refine t_ixS (n := 0) (show TD H5 y4 (.tuple [.str (S wNAMED), .str (S w)]) from ty4) rfl ?_
          walk_at "v"
          rw [show decide (wNAMED = [116, 111]) = false from by decide]
          walk_at "v"
          exact none_ s25
        | fr w =>
          refine t_ixS (n := 0) (show TD H5 y4 (.tuple [.str (S wFREE), .str (S w)]) from ty4) rfl ?_
          walk_at "v"
          rw [show decide (wFREE = [116, 111]) = false from by decide]
          walk_at "v"
          exact none_ s25
        | to a1 a2 =>
          have szaa : a1.sz + a2.sz + 1 + b.sz + 1 ≤ 100 := szab
          refine t_ixS (n := 0) (show TD H5 y4 (.tuple [.str (S wTO), a1.d, a2.d]) from ty4) rfl ?_
          walk_at "v"
          rw [show decide (wTO = [116, 111]) = true from by decide]
          walk_at "v"
          refine t_ix (n := 1) hk5 rfl (fun y5 ty5 => ?_)
          walk_at "v"
          refine t_ix (n := 2) (show TD H5 y5 (.tuple [.str (S wTO), a1.d, a2.d]) from ty5) rfl (fun y6 ty6 => ?_)
          walk_at "v"
          refine d_eq ty6 tb5 (GK.sz180 ⟨okab.1.2, by omega⟩) (sz_lit (k := bK) bK_ok (by decide)) ?_
          rw [Kd.eqv]
          walk_at "v"
          refine w_dec (fun e6 => ?_) (fun e6 => ?_)
          · walk_at "v"
            refine ev_lst (ds := [gALL, gSOME].map fun w => PyData.str (S w)) (by walk_at "d") (fun l7 H7 h7 s7 d7 => ?_)
            walk_at "v"
            refine fin [gALL, gSOME] (s04.tr s5) h7 s7 d7 (by simp) (fun w hw => ?_)
            rw [e5, e6]
            exact .q a1 (by simpa using hw)
          · walk_at "v"
            exact none_ s25
      · walk_at "v"
        exact none_ s25
  rintro σ H3 ⟨q, gs, rfl, hq, s3, d3, l3, f3⟩
  walk_at "v"
  exact hQ q H3 gs hq s3 d3 l3 f3

def sp_law_tip : Sp := sp4 fun x y z u H Q _ => ∃ (a p : Addr) (k : Kd) (ar : List Kd) (ws : List (List Nat)), x = .ref a ∧ u = .ref p ∧ Pot a H ∧ NmW ws H p ∧ TD H y k.d ∧ TD H z (arD ar) ∧ GK k ∧ (∀ x ∈ ar, GK x) ∧ ar.length ≤ 1000 ∧
  ∀ v H' (l : Lf), l.ok → lw ws l → lgc l → typed (.tip l) ar = some k → TD H' v l.d → Pot a H' → Kb a H H' → Q v H'
theorem ok_law_tip (T : Txt w K mg) {fd : FuncData} (F : Fn_law_tip K fd) (hm : mg "_law_tip" = some (.ref (He.ga K "_law_tip"))) (c_law_take : CalX P w K mg base CX0 1 "_law_take" sp_law_take)(c_law_signs : CalX P w K mg base CX0 1 "_law_signs" sp_law_signs) : CalX P w K mg base CX0 2 "_law_tip" sp_law_tip := by
  refine calx0 (k := 1) F hm sc_law_tip (b_law_tip F) (fun _ _ _ _ h => sp4_len h) (fun cdv A outer s H vs Q E hr h => ?_)
  obtain ⟨x0, x1, x2, x3, rfl, h⟩ := h
  refine ⟨_, (pss_cons (ps_setLc (i := 4) (own := [("k", 7)]) (g := gName 7) (by rfl) sc_law_tip.nd rfl rfl (sw_true rfl rfl rfl (by decide +kernel)) (pi_range1 (by rfl) T.f_range (pa_cons (pe_callB call_lenQ (by rfl) T.f_len PySem.boot_len (pa_cons (pv 2) pa_nil)) pa_nil)) (blkOk_by (own := [("k", 7)]) (N := ["pot", "kind", "around", "words", "fits", "way", "known", "k"]) (sc := defScope s_law_tip) (by decide +kernel)) (fun _ _ _ _ _ => pg_name (i := 7) sc_law_tip.nd rfl (Or.inl rfl)) (fun _ _ _ _ _ => (pts_one (pt_cmpR (r := rEqN K) (op_eqN hr) (pe_ix (r := rIxT K) ix_tup (pv 2) (pv 7) (fun _ _ => rfl)) (pv 1) (nomark _)))) (fun _ _ _ _ _ => (pv 7)))
    (pss_cons (ps_set (i := 5) sc_law_tip.nd rfl (Or.inl rfl) (pe_cx c_law_take hr (by decide) rfl pass0 (pa_cons (pv 0) (pa_cons pe_int pa_nil))))
    (pss_cons (ps_if (PW.pt (pw_and (pt_cmpR op_ltI (pv 5) pe_int (nomark _)) (pw_and1 (pt_truth (pv 4) (by intro _; rfl)))))
    (pss_one (ps_ret (pe_tup (pa_cons pe_str (pa_cons (pe_ix ix_list (pv 4) (pe_cx c_law_take hr (by decide) rfl pass0 (pa_cons (pv 0) (pa_cons (pe_callB call_lenQ (by rfl) T.f_len PySem.boot_len (pa_cons (pv 4) pa_nil)) pa_nil))) (fun _ _ => rfl)) pa_nil)))))
    pss_nil)
    (pss_cons (ps_if (pt_cmpR op_eq (pv 5) pe_int (nomark _))
    (pss_cons (ps_set (i := 6) sc_law_tip.nd rfl (Or.inl rfl) (pe_op op_cat (pv 3) (pe_cx c_law_signs hr (by decide) rfl pass0 (pa_cons (pv 1) pa_nil))))
    (pss_one (ps_ret (pe_tup (pa_cons pe_str (pa_cons (pe_ix ix_list (pv 6) (pe_cx c_law_take hr (by decide) rfl pass0 (pa_cons (pv 0) (pa_cons (pe_callB call_lenQ (by rfl) T.f_len PySem.boot_len (pa_cons (pv 6) pa_nil)) pa_nil))) (fun _ _ => rfl)) (pa_cons (pv 1) pa_nil)))))))
    pss_nil)
    (pss_one (ps_ret (pe_tup (pa_cons pe_str (pa_cons (pe_ix ix_list (pv 3) (pe_cx c_law_take hr (by decide) rfl pass0 (pa_cons (pv 0) (pa_cons pe_int pa_nil))) (fun _ _ => rfl)) (pa_cons (pv 1) pa_nil)))))))))), ?_⟩
  rw [show start ["pot", "kind", "around", "words", "fits", "way", "known", "k"] [x0, x1, x2, x3] = [some x0, some x1, some x2, some x3, none, none, none, none] from rfl]
  have ec0 : Str.ofString "var" = S [118,97,114] := S_ofs (by decide +kernel)
  have ec1 : Str.ofString "bound" = S [98,111,117,110,100] := S_ofs (by decide +kernel)
  have ec2 : Str.ofString "const" = S [99,111,110,115,116] := S_ofs (by decide +kernel)
  rw [ec0, ec1, ec2]
  obtain ⟨a, p, k, ar, ws, rfl, rfl, hP, hW, hk, hz, hg, har, hl, hQ⟩ := h
  try dsimp only [cxOf]
  walk_at "v"
  refine t_len hz ?_
  rw [List.length_map]
  walk_at "v"
  refine w_rg1 (by omega) (by omega) ?_
  intro D hD
  refine lc_range (fun i H' => Same H H' ∧ ∃ js : List Nat, DL H' D (js.map fun (n : Nat) => PyData.int (n : Int)) ∧ js.length ≤ i ∧ ∀ j ∈ js, ar[j]? = some k) ⟨same_upd hD, [], ⟨[], upd_same, .nil⟩, Nat.zero_le _, fun j hj => by cases hj⟩ ?_ ?_
  · rintro i H' hi ⟨sm, js, dj, hjl, hj⟩
    have hi : i < ar.length := hi
    dsimp only [gName]
    refine ⟨rfl, ?_⟩
    walk_at "v"
    rw [show (0 : Int) + (i : Int) = (i : Int) by omega]
    refine t_ix (hz.tm (Tm.same sm)) (show (ar.map Kd.d)[i]? = some ar[i].d by rw [List.getElem?_map, List.getElem?_eq_getElem hi]; rfl) (fun x tx => ?_)
    walk_at "v"
    refine d_eq tx (hk.tm (Tm.same sm)) (GK.sz180 (har _ (List.getElem_mem hi))) (GK.sz180 hg) ?_
    rw [Kd.eqv]
    walk_at "v"
    refine w_dec (fun he => ?_) (fun _ => ?_)
    · walk_at "v"
      obtain ⟨xs, e, t⟩ := dj
      have lx := t.len
      rw [List.length_map] at lx
      have ex : Ex D H' (upd H' D (.lst (xs ++ [.int (i : Int)]))) := fun b hb => upd_ne hb
      refine ⟨_, e, szl (show _ ≤ 100000 by omega), ⟨sm.ex hD ex, js ++ [i], ⟨_, upd_same, ?_⟩, by rw [List.length_append]; show js.length + 1 ≤ i + 1; omega, fun j hj' => ?_⟩⟩
      · rw [List.map_append]
        exact (t.tm (Tm.ex e ex)).snoc (.int _)
      · rcases List.mem_append.mp hj' with hj' | hj'
        · exact hj j hj'
        · rw [List.mem_singleton.mp hj', List.getElem?_eq_getElem hi, he]
    · exact ⟨sm, js, dj, by omega, hj⟩
  rintro H1 ⟨sm, js, dj, hjl, hj⟩
  walk_at "v"
  have P1 := hP.same sm
  refine ⟨_, _, rfl, a, 4, rfl, rfl, by omega, by omega, P1, fun v2 H2 hv2 P2 k2 => ?_⟩
  walk_at "v"
  have hDa : D ≠ a := hP.ne hD
  have dj2 := DLkb dj P1 k2 hDa
  have kx := (Kb.same (a := a) sm).tr k2
  have hk2 := hk.tm ((Tm.same sm).tr (Kb.pot_tm P1 k2))
  have hpa : p ≠ a := hW.ne hP
  have hW2 := (hW.same sm).kb P1 k2 hpa
  have lastV : ∀ {H3 : Hp}, Pot a H3 → Kb a H H3 → TD H3 x1 k.d → ∀ w4, (isName w4 = true ∧ w4 ∈ ws) → NewT [.str (S wVAR), .str (S w4), x1] H3 Q := fun {H3} P3 k3 tk3 w4 n4 => by
    refine t_new (ds := [.str (S wVAR), .str (S w4), k.d]) (.cons (.str _) (.cons (.str _) (.cons tk3 .nil))) (fun p5 H5 hp5 s5 t5 => ?_)
    exact hQ _ H5 (.var w4 k) ⟨n4.1, hg⟩ n4.2 trivial rfl t5 (P3.same s5) (k3.then s5)
  have lastC : ∀ {H3 : Hp}, Pot a H3 → Kb a H H3 → TD H3 x1 k.d → ∀ w4, (isName w4 = true ∨ fitsL w4 k) → NewT [.str (S wCONST), .str (S w4), x1] H3 Q := fun {H3} P3 k3 tk3 w4 n4 => by
    refine t_new (ds := [.str (S wCONST), .str (S w4), k.d]) (.cons (.str _) (.cons (.str _) (.cons tk3 .nil))) (fun p5 H5 hp5 s5 t5 => ?_)
    exact hQ _ H5 (.cst w4 k) ⟨n4.imp id fitsL.mem, hg⟩ trivial n4 rfl t5 (P3.same s5) (k3.then s5)
  by_cases h1 : (v2 : Int) < 2
  · rw [decide_eq_true h1]
    walk_at "v"
    refine l_truth dj2 ?_
    rw [show decide ((js.map fun (n : Nat) => PyData.int (n : Int)) ≠ []) = decide (js ≠ []) from map_ne]
    by_cases h2 : js = []
    · rw [decide_eq_false (by simp [h2])]
      walk_at "v"
      rw [decide_eq_false (show ¬ (v2 : Int) = 2 by omega)]
      walk_at "v"
      refine w_tupN ?_
      walk_at "v"
      refine ⟨_, _, rfl, a, 4, rfl, rfl, by omega, by omega, P2, fun v4 H4 hv4 P4 k4 => ?_⟩
      refine (hW2.kb P2 k4 hpa).ix hv4 (fun w4 n4 => ?_)
      walk_at "v"
      exact lastV P4 (kx.tr k4) (hk2.tm (Kb.pot_tm P2 k4)) w4 n4
    · rw [decide_eq_true h2]
      walk_at "v"
      refine w_tupN ?_
      walk_at "v"
      refine l_len dj2 ?_
      rw [List.length_map]
      walk_at "v"
      have hjp : 0 < js.length := by
        cases js with
        | nil => exact absurd rfl h2
        | cons _ _ => exact Nat.succ_pos _
      refine ⟨_, _, rfl, a, js.length, rfl, rfl, hjp, by omega, P2, fun v4 H4 hv4 P4 k4 => ?_⟩
      refine l_ix (DLkb dj2 P2 k4 hDa) (show (js.map fun (n : Nat) => PyData.int (n : Int))[v4]? = some (.int (js[v4] : Int)) by rw [List.getElem?_map, List.getElem?_eq_getElem hv4]; rfl) (fun x tx => ?_)
      rw [tx.num]
      walk_at "v"
      refine t_new (ds := [.str (S wBOUND), .int (js[v4] : Int)]) (.cons (.str _) (.cons (.int _) .nil)) (fun p5 H5 hp5 s5 t5 => ?_)
      exact hQ _ H5 (.bnd js[v4]) trivial trivial trivial (hj _ (List.getElem_mem hv4)) t5 (P4.same s5) ((kx.tr k4).then s5)
  rw [decide_eq_false h1]
  walk_at "v"
  by_cases h2 : (v2 : Int) = 2
  · rw [decide_eq_true h2]
    walk_at "v"
    obtain ⟨dW, hW4, hWn⟩ := hW2
    refine ⟨_, rfl, k, hk2, hg, fun q H3 gs hq3 s3 d3 l3 f3 => ?_⟩
    walk_at "v"
    refine l_cat (dW.same s3) d3 (fun l6 H6 h6 s6 d6 => ?_) (by rw [List.length_map, List.length_map]; omega)
    rw [← List.map_append] at d6
    have h6a : l6 ≠ a := Pot.ne (P2.same s3) h6
    walk_at "v"
    refine w_tupN ?_
    walk_at "v"
    refine l_len d6 ?_
    rw [List.length_map, List.length_append]
    walk_at "v"
    have P6 := (P2.same s3).same s6
    refine ⟨_, _, rfl, a, ws.length + gs.length, rfl, rfl, by omega, by omega, P6, fun v5 H5 hv5 P5 k5 => ?_⟩
    have hv5' : v5 < (ws ++ gs).length := by rw [List.length_append]; exact hv5
    refine l_ix (DLkb d6 P6 k5 h6a) (show ((ws ++ gs).map fun w => PyData.str (S w))[v5]? = some (.str (S (ws ++ gs)[v5])) by rw [List.getElem?_map, List.getElem?_eq_getElem hv5']; rfl) (fun x tx => ?_)
    rw [tx.txt]
    have hm := List.getElem_mem hv5'
    generalize (ws ++ gs)[v5] = w5 at hm
    walk_at "v"
    refine lastC P5 ((kx.then (s3.tr s6)).tr k5) ((hk2.tm (Tm.same (s3.tr s6))).tm (Kb.pot_tm P6 k5)) w5 ?_
    rcases List.mem_append.mp hm with hm | hm
    · exact .inl (hWn w5 hm)
    · exact .inr (f3 w5 hm)
  · rw [decide_eq_false h2]
    walk_at "v"
    refine w_tupN ?_
    walk_at "v"
    refine ⟨_, _, rfl, a, 4, rfl, rfl, by omega, by omega, P2, fun v4 H4 hv4 P4 k4 => ?_⟩
    refine (hW2.kb P2 k4 hpa).ix hv4 (fun w4 n4 => ?_)
    walk_at "v"
    exact lastV P4 (kx.tr k4) (hk2.tm (Kb.pot_tm P2 k4)) w4 n4
end
end K03

namespace K03
open PySem PySem.Spec PyProof.Rows L2 SX K02 K01
local macro_rules | `(tactic| walk_at "w1") => `(tactic| (first
  | with_reducible refine w_seq ?_ | with_reducible refine w_asgN ?_ | with_reducible refine w_c ?_
  | ((with_reducible refine' w_var ?wv ?_); (case wv => exact rfl))
  | with_reducible refine w_op ?_ | with_reducible refine w_un ?_ | with_reducible refine w_next ?_ | with_reducible refine w_brk ?_ | with_reducible refine w_cnt ?_
  | with_reducible refine w_ifS ?_ | with_reducible refine w_if ?_ | with_reducible refine w_test ?_ | with_reducible refine w_tB ?_ | with_reducible refine w_bl ?_ | with_reducible refine w_blI ?_
  | with_reducible refine w_and ?_ | with_reducible refine w_or ?_ | with_reducible refine w_not ?_ | with_reducible refine w_andV ?_ | with_reducible refine w_orV ?_ | with_reducible refine w_notV ?_
  | with_reducible refine w_nil ?_ | with_reducible refine w_cons ?_ | with_reducible refine w_cb ?_ | with_reducible refine w_call ?_ | with_reducible refine w_callS ?_ | with_reducible refine w_chain ?_
  | with_reducible refine w_tupN ?_ | with_reducible refine w_lstN ?_ | with_reducible refine w_sl ?_ | with_reducible refine w_noPart ?_ | with_reducible refine w_part ?_ | with_reducible refine w_partI ?_
  | with_reducible refine w_ret ?_ | with_reducible refine w_retN ?_ | with_reducible refine w_drop ?_ | with_reducible refine w_asg ?_ | with_reducible refine w_gSub ?_
  | ((with_reducible refine' w_aug ?wv ?_); (case wv => exact rfl)) | with_reducible refine w_ipI ?_
  | with_reducible refine w_addI ?_ | with_reducible refine w_subI ?_ | with_reducible refine w_ltI ?_ | with_reducible refine w_leI ?_ | with_reducible refine w_gtI ?_ | with_reducible refine w_geI ?_
  | with_reducible refine w_eqI ?_ | with_reducible refine w_neI ?_ | with_reducible refine w_eqT ?_ | with_reducible refine w_neT ?_ | with_reducible refine w_inS ?_ | with_reducible refine w_ninS ?_
  | with_reducible refine w_absI ?_ | with_reducible refine w_intI ?_ | with_reducible refine w_maxI ?_ | with_reducible refine w_minI ?_
  | with_reducible refine w_for ?_ | with_reducible refine w_iR1 ?_ | with_reducible refine w_iR2 ?_ | with_reducible refine w_iStr ?_ | with_reducible refine w_strI ?_ | with_reducible refine w_iList ?_ | with_reducible refine w_iTup ?_
  | with_reducible refine w_bm ?_ | with_reducible refine w_bm0 ?_ | with_reducible refine w_t ?_ | with_reducible refine w_f ?_ | with_reducible refine w_nt ?_ | with_reducible refine w_nx ?_ | with_reducible refine w_rt ?_ | with_reducible refine w_bk ?_ | with_reducible refine w_ct ?_ | with_reducible refine w_nf ?_ | with_reducible refine w_lc ?_ | with_reducible refine w_yes ?_ | with_reducible refine w_neg ?_ | with_reducible refine w_intB ?_ | with_reducible refine w_fld ?_ | with_reducible refine w_setf ?_ | with_reducible refine w_faug ?_ | with_reducible refine w_meth ?_ | with_reducible refine w_bmS ?_ | with_reducible refine w_start ?_ | with_reducible refine w_revL ?_ | with_reducible refine w_iR3 ?_))
local macro_rules | `(tactic| walk_at "w") => `(tactic| (repeat (first | walk_at "w1" | dsimp (config := { proj := false }) only [List.set_cons_zero, List.set_cons_succ])))
section
variable {w : World} [Lit] {mg : Str → Option Value} {base : Heap}
local macro_rules | `(tactic| walk_at "v1") => `(tactic| (first
  | with_reducible refine w_seq ?_ | with_reducible refine w_asgN ?_ | with_reducible refine w_c ?_
  | ((with_reducible refine' w_var ?wv ?_); (case wv => exact rfl))
  | with_reducible refine w_op ?_ | with_reducible refine w_un ?_ | with_reducible refine w_next ?_ | with_reducible refine w_brk ?_ | with_reducible refine w_cnt ?_
  | with_reducible refine w_ifS ?_ | with_reducible refine w_if ?_ | with_reducible refine w_test ?_ | with_reducible refine w_tB ?_ | with_reducible refine w_bl ?_ | with_reducible refine w_blI ?_
  | with_reducible refine w_and ?_ | with_reducible refine w_or ?_ | with_reducible refine w_not ?_ | with_reducible refine w_andV ?_ | with_reducible refine w_orV ?_ | with_reducible refine w_notV ?_
  | with_reducible refine w_nil ?_ | with_reducible refine w_cons ?_ | with_reducible refine w_cb ?_ | with_reducible refine w_call ?_ | with_reducible refine w_callS ?_ | with_reducible refine w_chain ?_
  | with_reducible refine w_sl ?_ | with_reducible refine w_noPart ?_ | with_reducible refine w_part ?_ | with_reducible refine w_partI ?_
  | with_reducible refine w_ret ?_ | with_reducible refine w_retN ?_ | with_reducible refine w_drop ?_ | with_reducible refine w_asg ?_ | with_reducible refine w_gSub ?_
  | ((with_reducible refine' w_aug ?wv ?_); (case wv => exact rfl)) | with_reducible refine w_ipI ?_
  | with_reducible refine w_addI ?_ | with_reducible refine w_subI ?_ | with_reducible refine w_ltI ?_ | with_reducible refine w_leI ?_ | with_reducible refine w_gtI ?_ | with_reducible refine w_geI ?_
  | with_reducible refine w_eqI ?_ | with_reducible refine w_neI ?_ | with_reducible refine w_eqT ?_ | with_reducible refine w_neT ?_ | with_reducible refine w_inS ?_ | with_reducible refine w_ninS ?_
  | with_reducible refine w_absI ?_ | with_reducible refine w_intI ?_ | with_reducible refine w_maxI ?_ | with_reducible refine w_minI ?_
  | with_reducible refine w_for ?_ | with_reducible refine w_iR1 ?_ | with_reducible refine w_iR2 ?_ | with_reducible refine w_iStr ?_ | with_reducible refine w_strI ?_ | with_reducible refine w_iList ?_ | with_reducible refine w_iTup ?_
  | with_reducible refine w_bm ?_ | with_reducible refine w_bm0 ?_ | with_reducible refine w_t ?_ | with_reducible refine w_f ?_ | with_reducible refine w_nt ?_ | with_reducible refine w_nx ?_ | with_reducible refine w_rt ?_ | with_reducible refine w_bk ?_ | with_reducible refine w_ct ?_ | with_reducible refine w_nf ?_ | with_reducible refine w_lc ?_ | with_reducible refine w_yes ?_ | with_reducible refine w_neg ?_ | with_reducible refine w_intB ?_ | with_reducible refine w_fld ?_ | with_reducible refine w_setf ?_ | with_reducible refine w_faug ?_ | with_reducible refine w_meth ?_ | with_reducible refine w_bmS ?_ | with_reducible refine w_start ?_ | with_reducible refine w_revL ?_ | with_reducible refine w_iR3 ?_))
local macro_rules | `(tactic| walk_at "v") => `(tactic| (repeat (first | walk_at "v1" | dsimp (config := { proj := false }) only [List.set_cons_zero, List.set_cons_succ])))
local macro_rules | `(tactic| walk_at "d") => `(tactic| (repeat (first | exact eva_nil | refine eva_cons ?_ ?_ | exact ev_str | exact ev_int | exact ev_neg | refine ev_tup ?_ | exact ev_var rfl (.str _) | exact ev_var rfl (.int _) | (refine ev_var rfl ?_; assumption))))

abbrev E3 := Kd × List Kd × Nat
def e3 (e : E3) : PyData := .tuple [e.1.d, arD e.2.1, .int (e.2.2 : Int)]
theorem kds_any (ks : List Kd) (k : Kd) : ((ks.map Kd.d).any fun z => PyData.eqv z k.d) = decide (k ∈ ks) := by
  rw [List.any_map]
  have e : ((fun z => PyData.eqv z k.d) ∘ Kd.d) = fun v => decide (v = k) := by funext v; exact Kd.eqv v k
  rw [e]
  by_cases h : k ∈ ks
  · rw [decide_eq_true h]; exact List.any_eq_true.mpr ⟨k, h, decide_eq_true rfl⟩
  · rw [decide_eq_false h]; exact List.any_eq_false.mpr fun v hv => by simp; intro z; subst z; exact h hv
theorem kds_lay : ∀ {ks : List Kd}, (∀ k ∈ ks, k.ok ∧ k.ht ≤ 100) → PyData.canLayAll0 (ks.map Kd.d) = true ∧ PyData.depthAll (ks.map Kd.d) ≤ 100
  | [], _ => ⟨rfl, Nat.zero_le _⟩
  | k :: ks, h => by
    obtain ⟨a, b⟩ := kds_lay fun k' hk' => h k' (List.mem_cons_of_mem _ hk')
    have hk := h k List.mem_cons_self
    refine ⟨by simp only [List.map_cons, PyData.canLayAll0, k.lay hk.1, a, Bool.and_self], ?_⟩
    simp only [List.map_cons, PyData.depthAll]
    rw [k.depth]
    omega
theorem KL.sz {n m : Nat} {ks : List Kd} (h : ∀ k ∈ ks, k.ok ∧ k.sz ≤ m) (hm : m ≤ 100) : Sz 180 (.list (ks.map Kd.d)) := by
  obtain ⟨a, b⟩ := kds_lay (ks := ks) fun k hk => ⟨(h k hk).1, by have := k.ht_sz; have := (h k hk).2; omega⟩
  refine ⟨by simp only [PyData.canLay0]; exact a, ?_⟩
  simp only [PyData.depth]; omega
theorem gd_snoc (c : List G2) (r : G2) : gd (c ++ [r]) = gd c ++ [(upR r).d] := by unfold gd cd; rw [List.map_append, List.map_append]; rfl
theorem gd_ne_int {c : List G2} (i : Int) : (gd c)[0]? ≠ some (.int i) := fun z => by
  cases c with
  | nil => cases z
  | cons r c =>
    obtain ⟨rest, e⟩ := gw_d r
    have z : (upR r).d = .int i := Option.some.inj z
    rw [e] at z; cases z
theorem e3_ne_int {es : List E3} (i : Int) : (es.map e3)[0]? ≠ some (.int i) := fun z => by cases es <;> cases z
def psOf (es : List E3) : List (Kd × List Kd) := (es.map fun e => (e.1, e.2.1)).reverse
theorem psOf_snoc (es : List E3) (e : E3) : psOf (es ++ [e]) = (e.1, e.2.1) :: psOf es := by unfold psOf; rw [List.map_append, List.reverse_append]; rfl
def EOk (i : Nat) (e : E3) : Prop := e.1.ok ∧ e.1.sz ≤ 7 + 6 * e.2.2 ∧ e.2.2 ≤ 8 ∧ (∀ x ∈ e.2.1, x.ok ∧ x.sz ≤ 55) ∧ e.2.1.length ≤ i
def kw : Kd → List Nat
  | .nm _ => wNAMED
  | .fr _ => wFREE
  | .to _ _ => wTO
theorem kw_d (k : Kd) : ∃ rest, k.d = .tuple (.str (S (kw k)) :: rest) := by cases k <;> exact ⟨_, rfl⟩
theorem kw_to {k : Kd} (h : kw k = wTO) : ∃ a b, k = .to a b := by
  cases k with
  | to a b => exact ⟨a, b, rfl⟩
  | nm w => exact absurd (show wNAMED = wTO from h) (by decide)
  | fr w => exact absurd (show wFREE = wTO from h) (by decide)
/-- kinds of at most 55 nodes, variables among the words, constants as they may be -/
def fine (ws : List (List Nat)) : G2 → Prop
  | .app => True
  | .lam k => k.sz ≤ 55
  | .tip (.var w k) => k.sz ≤ 55 ∧ w ∈ ws
  | .tip (.cst w k) => k.sz ≤ 55 ∧ (isName w = true ∨ fitsL w k)
  | .tip (.bnd _) => True
theorem fine_tip {ws : List (List Nat)} {l : Lf} {ar : List Kd} {k : Kd} (h : lw ws l) (g : lgc l) (e : typed (.tip l) ar = some k) (z : k.sz ≤ 55) : fine ws (.tip l) := by
  cases l with
  | bnd i => trivial
  | var w j => cases (Option.some.inj (show some j = some k from e)); exact ⟨z, h⟩
  | cst w j => cases (Option.some.inj (show some j = some k from e)); exact ⟨z, g⟩
theorem gd_app (c e : List G2) : gd (c ++ e) = gd c ++ gd e := by unfold gd cd; rw [List.map_append, List.map_append]
/-- all but the things at S stands -/
def Fr (S : List Addr) (H H' : Hp) : Prop := Tm H H' ∧ ∀ b o, b ∉ S → H b = some o → H' b = some o
section
variable {S : List Addr} {H H1 H' : Hp} {a p : Addr} {ds : List PyData}
theorem Fr.same (s : Same H H') : Fr S H H' := ⟨Tm.same s, fun b o _ e => s b o e⟩
theorem Fr.tr (h : Fr S H H1) (k : Fr S H1 H') : Fr S H H' := ⟨h.1.tr k.1, fun b o n e => k.2 b o n (h.2 b o n e)⟩
theorem Fr.ex {xs : List V} (hp : H p = some (.lst xs)) (x : Ex p H H') (m : p ∈ S) : Fr S H H' := ⟨Tm.ex hp x, fun b o n e => by rw [x b (fun z => n (z ▸ m))]; exact e⟩
theorem Fr.kb (P : Pot a H) (k : Kb a H H') (m : a ∈ S) : Fr S H H' := ⟨Kb.pot_tm P k, fun b o n e => k b o (fun z => n (z ▸ m)) e⟩
theorem Fr.dl (f : Fr S H H') (h : DL H p ds) (n : p ∉ S) : DL H' p ds := let ⟨xs, e, t⟩ := h; ⟨xs, f.2 _ _ n e, t.tm f.1⟩
theorem Fr.pol {n m : Nat} (f : Fr S H H') (h : KL H p n m) (z : p ∉ S) : KL H' p n m := let ⟨ks, h1, h2⟩ := h; ⟨ks, f.dl h1 z, h2⟩
theorem Fr.nm {ws : List (List Nat)} (f : Fr S H H') (h : NmW ws H p) (z : p ∉ S) : NmW ws H' p := ⟨f.dl h.1 z, h.2⟩
end
theorem ev_lstIx {H0 : Hp} {σ : L2.St} {tA : TA} {ti : TE} {ds : List PyData} {d : PyData} {n : Nat} (h : EvA H0 tA σ ds) (hi : ∀ H Q, Q (.int (n : Int)) H → ti σ H Q) (e : ds[n]? = some d) (hl : ds.length ≤ 4096 := by exact Nat.le_of_ble_eq_true rfl) : Ev H0 (tOp (rIxL K) (tLst tA) ti) σ d := fun H Q s k =>
  w_op (ev_lst (fun G R z => h G R (s.tr z)) (fun p H1 h1 s1 d1 => hi _ _ (l_ix d1 e fun x tx => k _ _ s1 tx)) hl)
/-- what a formula's step adds -/
def Step (ar : List Kd) (rs : List G2) (ns : List E3) : Prop := (∀ k0 c ps, PT k0 c ((bK, ar) :: ps) → PT k0 (c ++ rs) (psOf ns ++ ps)) ∧ (∀ ws, ∀ r ∈ rs, r.gok ∧ fine ws r) ∧ rs.length ≤ 3 ∧ ns.length ≤ 2 ∧ ∀ e ∈ ns, e.1.ok ∧ e.1.sz ≤ 7 ∧ e.2 = (ar, 0)
def sp_law_grow_formula : Sp := sp5 fun x y z u v H Q _ => ∃ (a q r td : Addr) (ar : List Kd) (c : List G2) (es : List E3), x = .ref a ∧ y = .ref q ∧ TD H z (arD ar) ∧ u = .ref r ∧ v = .ref td ∧ Pot a H ∧ PoL H q ∧ DL H r (gd c) ∧ DL H td (es.map e3) ∧ r ≠ td ∧ q ≠ r ∧ q ≠ td ∧ c.length ≤ 1000 ∧ es.length ≤ 1000 ∧
  ∀ H' (rs : List G2) (ns : List E3), DL H' r (gd (c ++ rs)) → DL H' td ((es ++ ns).map e3) → Step ar rs ns → Pot a H' → Fr [a, r, td] H H' → Q .non H'
theorem st_not (ar : List Kd) : Step ar [.app, .tip (.cst gNOT (.to bK bK))] [(bK, ar, 0)] := by
  refine ⟨fun k0 c ps h => ?_, fun ws r hr => ?_, by simp, by simp, fun e he => by rw [List.mem_singleton.mp he]; exact ⟨bK_ok, Nat.le_of_ble_eq_true rfl, rfl⟩⟩
  · have := PT.tip (l := .cst gNOT (.to bK bK)) (PT.app (o := bK) h) rfl
    rw [show psOf [(bK, ar, 0)] ++ ps = (bK, ar) :: ps from rfl]
    simpa using this
  · rcases List.mem_cons.mp hr with rfl | hr
    · exact ⟨trivial, trivial⟩
    · rw [List.mem_singleton.mp hr]; exact ⟨⟨.inr (by decide), ⟨bK_ok, bK_ok⟩, by decide⟩, by decide, .inr .not⟩
theorem st_two (ar : List Kd) {w : List Nat} {k : Kd} (hk : k.ok) (hs : k.sz ≤ 5) (hf : fitsL w (.to k (.to k bK))) : Step ar [.app, .app, .tip (.cst w (.to k (.to k bK)))] [(k, ar, 0), (k, ar, 0)] := by
  refine ⟨fun k0 c ps h => ?_, fun ws r hr => ?_, by simp, by simp, fun e he => ?_⟩
  · have := PT.tip (l := .cst w (.to k (.to k bK))) (PT.app (o := k) (PT.app (o := k) h)) rfl
    rw [show psOf [(k, ar, 0), (k, ar, 0)] ++ ps = (k, ar) :: (k, ar) :: ps from rfl]
    simpa using this
  · have sz : Kd.sz (.to k (.to k bK)) ≤ 13 := by show k.sz + (k.sz + 1 + 1) + 1 ≤ 13; omega
    rcases List.mem_cons.mp hr with rfl | hr
    · exact ⟨trivial, trivial⟩
    rcases List.mem_cons.mp hr with rfl | hr
    · exact ⟨trivial, trivial⟩
    · rw [List.mem_singleton.mp hr]; exact ⟨⟨.inr hf.mem, ⟨hk, hk, bK_ok⟩, by omega⟩, by omega, .inr hf⟩
  · have : e = (k, ar, 0) := by simpa using he
    rw [this]; exact ⟨hk, by show k.sz ≤ 7; omega, rfl⟩
theorem st_q (ar : List Kd) {w : List Nat} {k : Kd} (hk : k.ok) (hs : k.sz ≤ 5) (hw : w = gALL ∨ w = gSOME) : Step ar [.app, .tip (.cst w (.to (.to k bK) bK))] [(.to k bK, ar, 0)] := by
  have hf : fitsL w (.to (.to k bK) bK) := .q k hw
  refine ⟨fun k0 c ps h => ?_, fun ws r hr => ?_, by simp, by simp, fun e he => by rw [List.mem_singleton.mp he]; exact ⟨⟨hk, bK_ok⟩, by show k.sz + 1 + 1 ≤ 7; omega, rfl⟩⟩
  · have := PT.tip (l := .cst w (.to (.to k bK) bK)) (PT.app (o := .to k bK) h) rfl
    rw [show psOf [((.to k bK : Kd), ar, 0)] ++ ps = (.to k bK, ar) :: ps from rfl]
    simpa using this
  · have sz : Kd.sz (.to (.to k bK) bK) ≤ 13 := by show k.sz + 1 + 1 + 1 + 1 ≤ 13; omega
    rcases List.mem_cons.mp hr with rfl | hr
    · exact ⟨trivial, trivial⟩
    · rw [List.mem_singleton.mp hr]; exact ⟨⟨.inr hf.mem, ⟨⟨hk, bK_ok⟩, bK_ok⟩, by omega⟩, by omega, .inr hf⟩
theorem ok_law_grow_formula (T : Txt w K mg) {fd : FuncData} (F : Fn_law_grow_formula K fd) (hm : mg "_law_grow_formula" = some (.ref (He.ga K "_law_grow_formula"))) (c_law_take : CalX P w K mg base CX0 1 "_law_take" sp_law_take) : CalX P w K mg base CX0 2 "_law_grow_formula" sp_law_grow_formula := by
  refine calx0 (k := 1) F hm sc_law_grow_formula (b_law_grow_formula F) (fun _ _ _ _ h => sp5_len h) (fun cdv A outer s H vs Q E hr h => ?_)
  obtain ⟨x0, x1, x2, x3, x4, rfl, h⟩ := h
  refine ⟨_, (pss_cons (ps_set (i := 5) sc_law_grow_formula.nd rfl (Or.inl rfl) (pe_tup (pa_cons pe_str (pa_cons pe_str pa_nil))))
    (pss_cons (ps_set (i := 6) sc_law_grow_formula.nd rfl (Or.inl rfl) (pe_tup (pa_cons pe_str (pa_cons (pv 5) (pa_cons (pe_tup (pa_cons pe_str (pa_cons (pv 5) (pa_cons (pv 5) pa_nil)))) pa_nil)))))
    (pss_cons (ps_set (i := 7) sc_law_grow_formula.nd rfl (Or.inl rfl) (pe_cx c_law_take hr (by decide) rfl pass0 (pa_cons (pv 0) (pa_cons pe_int pa_nil))))
    (pss_cons (ps_set (i := 8) sc_law_grow_formula.nd rfl (Or.inl rfl) (pe_ix ix_list (pv 1) (pe_cx c_law_take hr (by decide) rfl pass0 (pa_cons (pv 0) (pa_cons pe_int pa_nil))) (fun _ _ => rfl)))
    (pss_one (ps_if (pt_cmpR op_eq (pv 7) pe_int (nomark _))
    (pss_cons (ps_expr (pe_bm PySem.F.plainAttrs_list PySem.F.slot_list_extend PySem.F.type_list_extend mt_extend (pv 3) (pa_cons (pe_lst (pa_cons (pe_tup (pa_cons pe_str pa_nil)) (pa_cons (pe_tup (pa_cons pe_str (pa_cons pe_str (pa_cons (pe_tup (pa_cons pe_str (pa_cons (pv 5) (pa_cons (pv 5) pa_nil)))) pa_nil)))) pa_nil))) pa_nil)))
    (pss_one (ps_expr (pe_bm PySem.F.plainAttrs_list PySem.F.slot_list_append PySem.F.type_list_append mt_append (pv 4) (pa_cons (pe_tup (pa_cons (pv 5) (pa_cons (pv 2) (pa_cons pe_int pa_nil)))) pa_nil)))))
    (pss_one (ps_if (pt_cmpR op_ltI (pv 7) pe_int (nomark _))
    (pss_cons (ps_expr (pe_bm PySem.F.plainAttrs_list PySem.F.slot_list_extend PySem.F.type_list_extend mt_extend (pv 3) (pa_cons (pe_lst (pa_cons (pe_tup (pa_cons pe_str pa_nil)) (pa_cons (pe_tup (pa_cons pe_str pa_nil)) (pa_cons (pe_tup (pa_cons pe_str (pa_cons (pe_ix ix_list (pe_lst (pa_cons pe_str (pa_cons pe_str (pa_cons pe_str pa_nil)))) (pe_op op_subI (pv 7) pe_int) (fun _ _ => rfl)) (pa_cons (pv 6) pa_nil)))) pa_nil)))) pa_nil)))
    (pss_cons (ps_expr (pe_bm PySem.F.plainAttrs_list PySem.F.slot_list_append PySem.F.type_list_append mt_append (pv 4) (pa_cons (pe_tup (pa_cons (pv 5) (pa_cons (pv 2) (pa_cons pe_int pa_nil)))) pa_nil)))
    (pss_one (ps_expr (pe_bm PySem.F.plainAttrs_list PySem.F.slot_list_append PySem.F.type_list_append mt_append (pv 4) (pa_cons (pe_tup (pa_cons (pv 5) (pa_cons (pv 2) (pa_cons pe_int pa_nil)))) pa_nil))))))
    (pss_one (ps_if (pt_cmpR op_eq (pv 7) pe_int (nomark _))
    (pss_cons (ps_expr (pe_bm PySem.F.plainAttrs_list PySem.F.slot_list_extend PySem.F.type_list_extend mt_extend (pv 3) (pa_cons (pe_lst (pa_cons (pe_tup (pa_cons pe_str pa_nil)) (pa_cons (pe_tup (pa_cons pe_str pa_nil)) (pa_cons (pe_tup (pa_cons pe_str (pa_cons pe_str (pa_cons (pe_tup (pa_cons pe_str (pa_cons (pv 8) (pa_cons (pe_tup (pa_cons pe_str (pa_cons (pv 8) (pa_cons (pv 5) pa_nil)))) pa_nil)))) pa_nil)))) pa_nil)))) pa_nil)))
    (pss_cons (ps_expr (pe_bm PySem.F.plainAttrs_list PySem.F.slot_list_append PySem.F.type_list_append mt_append (pv 4) (pa_cons (pe_tup (pa_cons (pv 8) (pa_cons (pv 2) (pa_cons pe_int pa_nil)))) pa_nil)))
    (pss_one (ps_expr (pe_bm PySem.F.plainAttrs_list PySem.F.slot_list_append PySem.F.type_list_append mt_append (pv 4) (pa_cons (pe_tup (pa_cons (pv 8) (pa_cons (pv 2) (pa_cons pe_int pa_nil)))) pa_nil))))))
    (pss_cons (ps_set (i := 9) sc_law_grow_formula.nd rfl (Or.inl rfl) (pe_ix ix_list (pe_lst (pa_cons pe_str (pa_cons pe_str pa_nil))) (pe_op op_subI (pv 7) pe_int) (fun _ _ => rfl)))
    (pss_cons (ps_expr (pe_bm PySem.F.plainAttrs_list PySem.F.slot_list_extend PySem.F.type_list_extend mt_extend (pv 3) (pa_cons (pe_lst (pa_cons (pe_tup (pa_cons pe_str pa_nil)) (pa_cons (pe_tup (pa_cons pe_str (pa_cons (pv 9) (pa_cons (pe_tup (pa_cons pe_str (pa_cons (pe_tup (pa_cons pe_str (pa_cons (pv 8) (pa_cons (pv 5) pa_nil)))) (pa_cons (pv 5) pa_nil)))) pa_nil)))) pa_nil))) pa_nil)))
    (pss_one (ps_expr (pe_bm PySem.F.plainAttrs_list PySem.F.slot_list_append PySem.F.type_list_append mt_append (pv 4) (pa_cons (pe_tup (pa_cons (pe_tup (pa_cons pe_str (pa_cons (pv 8) (pa_cons (pv 5) pa_nil)))) (pa_cons (pv 2) (pa_cons pe_int pa_nil)))) pa_nil)))))))))))))))), ?_⟩
  rw [show start ["pot", "pool", "around", "code", "todo", "truth", "two", "pick", "other", "word"] [x0, x1, x2, x3, x4] = [some x0, some x1, some x2, some x3, some x4, none, none, none, none, none] from rfl]
  have ec0 : Str.ofString "named" = S [110,97,109,101,100] := S_ofs (by decide +kernel)
  have ec1 : Str.ofString "bool" = S [98,111,111,108] := S_ofs (by decide +kernel)
  have ec2 : Str.ofString "to" = S [116,111] := S_ofs (by decide +kernel)
  have ec3 : Str.ofString "app" = S [97,112,112] := S_ofs (by decide +kernel)
  have ec4 : Str.ofString "const" = S [99,111,110,115,116] := S_ofs (by decide +kernel)
  have ec5 : Str.ofString "~" = S [126] := S_ofs (by decide +kernel)
  have ec6 : Str.ofString "all" = S [97,108,108] := S_ofs (by decide +kernel)
  have ec7 : Str.ofString "some" = S [115,111,109,101] := S_ofs (by decide +kernel)
  have ec8 : Str.ofString "=" = S [61] := S_ofs (by decide +kernel)
  have ec9 : Str.ofString "&" = S [38] := S_ofs (by decide +kernel)
  have ec10 : Str.ofString "|" = S [124] := S_ofs (by decide +kernel)
  have ec11 : Str.ofString "=>" = S [61,62] := S_ofs (by decide +kernel)
  rw [ec0, ec1, ec2, ec3, ec4, ec5, ec6, ec7, ec8, ec9, ec10, ec11]
  obtain ⟨a, q, r, td, ar, c, es, rfl, rfl, hz, rfl, rfl, hP, hL, hd, he, hrt, hqr, hqt, hzc, hze, hQ⟩ := h
  have hqa : q ≠ a := hL.ne hP (by omega)
  have hra : r ≠ a := DL.ne_pot hd hP gd_ne_int
  have hta : td ≠ a := DL.ne_pot he hP e3_ne_int
  try dsimp only [cxOf]
  walk_at "v"
  refine ev_go (d := bK.d) (by show Ev _ _ _ (.tuple [.str (S wNAMED), .str (S wBOOL)]); walk_at "d") (fun xb H1 s1 tb => ?_)
  walk_at "v"
  refine ev_go (d := (Kd.to bK (.to bK bK)).d) (by show Ev _ _ _ (.tuple [.str (S wTO), bK.d, .tuple [.str (S wTO), bK.d, bK.d]]); walk_at "d") (fun x2 H2 s2 t2 => ?_)
  walk_at "v"
  have s02 := s1.tr s2
  have P2 := hP.same s02
  refine ⟨_, _, rfl, a, 7, rfl, rfl, by omega, by omega, P2, fun v3 H3 hv3 P3 k3 => ?_⟩
  walk_at "v"
  refine ⟨_, _, rfl, a, 4, rfl, rfl, by omega, by omega, P3, fun v4 H4 hv4 P4 k4 => ?_⟩
  walk_at "v"
  have k24 := k3.tr k4
  have f04 : Fr [a, r, td] H H4 := (Fr.same s02).tr (Fr.kb P2 k24 (by simp))
  have fq : q ∉ [a, r, td] := by simp [hqa, hqr, hqt]
  refine (f04.pol hL fq).ix hv4 (fun xo ko oko szo txo => ?_)
  walk_at "v"
  have tb4 := (tb.tm (Tm.same s2)).tm (Kb.pot_tm P2 k24)
  have t24 := t2.tm (Kb.pot_tm P2 k24)
  have ta4 := hz.tm f04.1
  have d4 := DLkb (hd.same s02) P2 k24 hra
  have e4 := DLkb (he.same s02) P2 k24 hta
  have lgd : (gd c).length ≤ 1000 := by rw [gd_len]; exact hzc
  have leD : (es.map e3).length ≤ 1000 := by rw [List.length_map]; exact hze
  have fin1 : ∀ {G : Hp} {rs : List G2} {k : Kd} {p : V}, Fr [a, r, td] H G → Pot a G → DL G r (gd (c ++ rs)) → DL G td (es.map e3) → TD G p (e3 (k, ar, 0)) → Step ar rs [(k, ar, 0)] → rAppend (.ref td) [p] G (fun _ H1 => Q .non H1) := fun {G rs k p} f P dr dt tp st => by
    refine l_app dt tp (fun G1 dt1 x1 => ?_) (by omega)
    obtain ⟨_, e⟩ := dt.lst
    exact hQ G1 rs [(k, ar, 0)] (dr.ex x1 hrt e) (by rw [List.map_append]; exact dt1) st (P.ex x1 hta.symm) (f.tr (Fr.ex e x1 (by simp)))
  refine w_dec (fun h0 => ?_) (fun h0 => ?_)
  · walk_at "v"
    refine l_ty d4 ?_
    walk_at "v"
    refine ev_lst (ds := gd [.app, .tip (.cst gNOT (.to bK bK))]) (eva_cons (by show Ev _ _ _ (.tuple [.str (S wAPP)]); walk_at "d") (eva_cons (by show Ev _ _ _ (.tuple [.str (S wCONST), .str (S gNOT), .tuple [.str (S wTO), bK.d, bK.d]]); walk_at "d") eva_nil)) (fun l5 H5 h5 s5 d5 => ?_)
    walk_at "v"
    refine l_extL (d4.same s5) d5 (fun H6 d6 x6 => ?_) (by rw [gd_len, gd_len]; show c.length + 2 ≤ 100000; omega)
    rw [← gd_app] at d6
    obtain ⟨_, er⟩ := (d4.same s5).lst
    have f06 := (f04.tr (Fr.same s5)).tr (Fr.ex er x6 (by simp))
    have tm46 := (Tm.same s5).tr (Tm.ex er x6)
    have e6 := (e4.same s5).ex x6 hrt.symm er
    have P6 := (P4.same s5).ex x6 hra.symm
    walk_at "v"
    refine l_ty e6 ?_
    walk_at "v"
    refine w_tupN ?_
    walk_at "v"
    refine t_new (ds := [bK.d, arD ar, .int ((0 : Nat) : Int)]) (.cons (tb4.tm tm46) (.cons (ta4.tm tm46) (.cons (.int _) .nil))) (fun p7 H7 hp7 s7 t7 => ?_)
    walk_at "v"
    exact fin1 (f06.tr (Fr.same s7)) (P6.same s7) (d6.same s7) (e6.same s7) t7 (st_not ar)
  walk_at "v"
  have two : ∀ {G : Hp} {rs : List G2} {k : Kd} {p1 p2 : V} {G1 G2 : Hp}, Fr [a, r, td] H G2 → Pot a G2 → DL G2 r (gd (c ++ rs)) → DL G2 td (es.map e3 ++ [e3 (k, ar, 0)]) → TD G2 p2 (e3 (k, ar, 0)) → Step ar rs [(k, ar, 0), (k, ar, 0)] → rAppend (.ref td) [p2] G2 (fun _ H1 => Q .non H1) := fun {G rs k p1 p2 G1 G2} f P dr dt tp st => by
    refine l_app dt tp (fun G3 dt3 x3 => ?_) (by rw [List.length_append]; show (es.map e3).length + 1 ≤ 100000; omega)
    obtain ⟨_, e⟩ := dt.lst
    refine hQ G3 rs [(k, ar, 0), (k, ar, 0)] (dr.ex x3 hrt e) ?_ st (P.ex x3 hta.symm) (f.tr (Fr.ex e x3 (by simp)))
    rw [List.map_append]
    simpa using dt3
  refine w_dec (fun h1 => ?_) (fun h1 => ?_)
  · walk_at "v"
    by_cases z1 : v3 = 1
    · subst z1
      refine l_ty d4 ?_
      walk_at "v"
      refine ev_lst (ds := gd [.app, .app, .tip (.cst gAND (.to bK (.to bK bK)))]) (eva_cons (by show Ev _ _ _ (.tuple [.str (S wAPP)]); walk_at "d") (eva_cons (by show Ev _ _ _ (.tuple [.str (S wAPP)]); walk_at "d") (eva_cons (ev_tup (eva_cons ev_str (eva_cons (ev_lstIx (ds := [gAND, gOR, gIMP].map fun w => PyData.str (S w)) (n := 0) (d := .str (S gAND)) (by walk_at "d") (fun G R h => w_op (w_var rfl (w_c (w_subI (by exact h))))) rfl) (eva_cons (ev_var rfl t24) eva_nil)))) eva_nil))) (fun l5 H5 h5 s5 d5 => ?_)
      walk_at "v"
      refine l_extL (d4.same s5) d5 (fun H6 d6 x6 => ?_) (by rw [gd_len, gd_len]; show c.length + 3 ≤ 100000; omega)
      rw [← gd_app] at d6
      obtain ⟨_, er⟩ := (d4.same s5).lst
      have f06 := (f04.tr (Fr.same s5)).tr (Fr.ex er x6 (by simp))
      have tm46 := (Tm.same s5).tr (Tm.ex er x6)
      have e6 := (e4.same s5).ex x6 hrt.symm er
      have P6 := (P4.same s5).ex x6 hra.symm
      walk_at "v"
      refine l_ty e6 ?_
      walk_at "v"
      refine w_tupN ?_
      walk_at "v"
      refine t_new (ds := [bK.d, arD ar, .int ((0 : Nat) : Int)]) (.cons (tb4.tm tm46) (.cons (ta4.tm tm46) (.cons (.int _) .nil))) (fun p7 H7 hp7 s7 t7 => ?_)
      walk_at "v"
      refine l_app (d := e3 (bK, ar, 0)) (e6.same s7) t7 (fun H8 e8 x8 => ?_) (by omega)
      obtain ⟨_, et⟩ := (e6.same s7).lst
      have tm68 := (Tm.same s7).tr (Tm.ex et x8)
      walk_at "v"
      refine l_ty e8 ?_
      walk_at "v"
      refine w_tupN ?_
      walk_at "v"
      refine t_new (ds := [bK.d, arD ar, .int ((0 : Nat) : Int)]) (.cons ((tb4.tm tm46).tm tm68) (.cons ((ta4.tm tm46).tm tm68) (.cons (.int _) .nil))) (fun p9 H9 hp9 s9 t9 => ?_)
      walk_at "v"
      exact two (G := H) (G1 := H) (p1 := .non) (((f06.tr (Fr.same s7)).tr (Fr.ex et x8 (by simp))).tr (Fr.same s9)) (((P6.same s7).ex x8 hta.symm).same s9) (((d6.same s7).ex x8 hrt et).same s9) (e8.same s9) t9 (st_two ar bK_ok (by decide) (.two (by simp)))
    by_cases z2 : v3 = 2
    · subst z2
      refine l_ty d4 ?_
      walk_at "v"
      refine ev_lst (ds := gd [.app, .app, .tip (.cst gOR (.to bK (.to bK bK)))]) (eva_cons (by show Ev _ _ _ (.tuple [.str (S wAPP)]); walk_at "d") (eva_cons (by show Ev _ _ _ (.tuple [.str (S wAPP)]); walk_at "d") (eva_cons (ev_tup (eva_cons ev_str (eva_cons (ev_lstIx (ds := [gAND, gOR, gIMP].map fun w => PyData.str (S w)) (n := 1) (d := .str (S gOR)) (by walk_at "d") (fun G R h => w_op (w_var rfl (w_c (w_subI (by exact h))))) rfl) (eva_cons (ev_var rfl t24) eva_nil)))) eva_nil))) (fun l5 H5 h5 s5 d5 => ?_)
      walk_at "v"
      refine l_extL (d4.same s5) d5 (fun H6 d6 x6 => ?_) (by rw [gd_len, gd_len]; show c.length + 3 ≤ 100000; omega)
      rw [← gd_app] at d6
      obtain ⟨_, er⟩ := (d4.same s5).lst
      have f06 := (f04.tr (Fr.same s5)).tr (Fr.ex er x6 (by simp))
      have tm46 := (Tm.same s5).tr (Tm.ex er x6)
      have e6 := (e4.same s5).ex x6 hrt.symm er
      have P6 := (P4.same s5).ex x6 hra.symm
      walk_at "v"
      refine l_ty e6 ?_
      walk_at "v"
      refine w_tupN ?_
      walk_at "v"
      refine t_new (ds := [bK.d, arD ar, .int ((0 : Nat) : Int)]) (.cons (tb4.tm tm46) (.cons (ta4.tm tm46) (.cons (.int _) .nil))) (fun p7 H7 hp7 s7 t7 => ?_)
      walk_at "v"
      refine l_app (d := e3 (bK, ar, 0)) (e6.same s7) t7 (fun H8 e8 x8 => ?_) (by omega)
      obtain ⟨_, et⟩ := (e6.same s7).lst
      have tm68 := (Tm.same s7).tr (Tm.ex et x8)
      walk_at "v"
      refine l_ty e8 ?_
      walk_at "v"
      refine w_tupN ?_
      walk_at "v"
      refine t_new (ds := [bK.d, arD ar, .int ((0 : Nat) : Int)]) (.cons ((tb4.tm tm46).tm tm68) (.cons ((ta4.tm tm46).tm tm68) (.cons (.int _) .nil))) (fun p9 H9 hp9 s9 t9 => ?_)
      walk_at "v"
      exact two (G := H) (G1 := H) (p1 := .non) (((f06.tr (Fr.same s7)).tr (Fr.ex et x8 (by simp))).tr (Fr.same s9)) (((P6.same s7).ex x8 hta.symm).same s9) (((d6.same s7).ex x8 hrt et).same s9) (e8.same s9) t9 (st_two ar bK_ok (by decide) (.two (by simp)))
    have z3 : v3 = 3 := by omega
    subst z3
    refine l_ty d4 ?_
    walk_at "v"
    refine ev_lst (ds := gd [.app, .app, .tip (.cst gIMP (.to bK (.to bK bK)))]) (eva_cons (by show Ev _ _ _ (.tuple [.str (S wAPP)]); walk_at "d") (eva_cons (by show Ev _ _ _ (.tuple [.str (S wAPP)]); walk_at "d") (eva_cons (ev_tup (eva_cons ev_str (eva_cons (ev_lstIx (ds := [gAND, gOR, gIMP].map fun w => PyData.str (S w)) (n := 2) (d := .str (S gIMP)) (by walk_at "d") (fun G R h => w_op (w_var rfl (w_c (w_subI (by exact h))))) rfl) (eva_cons (ev_var rfl t24) eva_nil)))) eva_nil))) (fun l5 H5 h5 s5 d5 => ?_)
    walk_at "v"
    refine l_extL (d4.same s5) d5 (fun H6 d6 x6 => ?_) (by rw [gd_len, gd_len]; show c.length + 3 ≤ 100000; omega)
    rw [← gd_app] at d6
    obtain ⟨_, er⟩ := (d4.same s5).lst
    have f06 := (f04.tr (Fr.same s5)).tr (Fr.ex er x6 (by simp))
    have tm46 := (Tm.same s5).tr (Tm.ex er x6)
    have e6 := (e4.same s5).ex x6 hrt.symm er
    have P6 := (P4.same s5).ex x6 hra.symm
    walk_at "v"
    refine l_ty e6 ?_
    walk_at "v"
    refine w_tupN ?_
    walk_at "v"
    refine t_new (ds := [bK.d, arD ar, .int ((0 : Nat) : Int)]) (.cons (tb4.tm tm46) (.cons (ta4.tm tm46) (.cons (.int _) .nil))) (fun p7 H7 hp7 s7 t7 => ?_)
    walk_at "v"
    refine l_app (d := e3 (bK, ar, 0)) (e6.same s7) t7 (fun H8 e8 x8 => ?_) (by omega)
    obtain ⟨_, et⟩ := (e6.same s7).lst
    have tm68 := (Tm.same s7).tr (Tm.ex et x8)
    walk_at "v"
    refine l_ty e8 ?_
    walk_at "v"
    refine w_tupN ?_
    walk_at "v"
    refine t_new (ds := [bK.d, arD ar, .int ((0 : Nat) : Int)]) (.cons ((tb4.tm tm46).tm tm68) (.cons ((ta4.tm tm46).tm tm68) (.cons (.int _) .nil))) (fun p9 H9 hp9 s9 t9 => ?_)
    walk_at "v"
    exact two (G := H) (G1 := H) (p1 := .non) (((f06.tr (Fr.same s7)).tr (Fr.ex et x8 (by simp))).tr (Fr.same s9)) (((P6.same s7).ex x8 hta.symm).same s9) (((d6.same s7).ex x8 hrt et).same s9) (e8.same s9) t9 (st_two ar bK_ok (by decide) (.two (by simp)))
  walk_at "v"
  refine w_dec (fun h2 => ?_) (fun h2 => ?_)
  · walk_at "v"
    refine l_ty d4 ?_
    walk_at "v"
    refine ev_lst (ds := gd [.app, .app, .tip (.cst gEQ (.to ko (.to ko bK)))]) (eva_cons (by show Ev _ _ _ (.tuple [.str (S wAPP)]); walk_at "d") (eva_cons (by show Ev _ _ _ (.tuple [.str (S wAPP)]); walk_at "d") (eva_cons (by show Ev _ _ _ (.tuple [.str (S wCONST), .str (S gEQ), .tuple [.str (S wTO), ko.d, .tuple [.str (S wTO), ko.d, bK.d]]]); walk_at "d") eva_nil))) (fun l5 H5 h5 s5 d5 => ?_)
    walk_at "v"
    refine l_extL (d4.same s5) d5 (fun H6 d6 x6 => ?_) (by rw [gd_len, gd_len]; show c.length + 3 ≤ 100000; omega)
    rw [← gd_app] at d6
    obtain ⟨_, er⟩ := (d4.same s5).lst
    have f06 := (f04.tr (Fr.same s5)).tr (Fr.ex er x6 (by simp))
    have tm46 := (Tm.same s5).tr (Tm.ex er x6)
    have e6 := (e4.same s5).ex x6 hrt.symm er
    have P6 := (P4.same s5).ex x6 hra.symm
    walk_at "v"
    refine l_ty e6 ?_
    walk_at "v"
    refine w_tupN ?_
    walk_at "v"
    refine t_new (ds := [ko.d, arD ar, .int ((0 : Nat) : Int)]) (.cons (txo.tm tm46) (.cons (ta4.tm tm46) (.cons (.int _) .nil))) (fun p7 H7 hp7 s7 t7 => ?_)
    walk_at "v"
    refine l_app (d := e3 (ko, ar, 0)) (e6.same s7) t7 (fun H8 e8 x8 => ?_) (by omega)
    obtain ⟨_, et⟩ := (e6.same s7).lst
    have tm68 := (Tm.same s7).tr (Tm.ex et x8)
    walk_at "v"
    refine l_ty e8 ?_
    walk_at "v"
    refine w_tupN ?_
    walk_at "v"
    refine t_new (ds := [ko.d, arD ar, .int ((0 : Nat) : Int)]) (.cons ((txo.tm tm46).tm tm68) (.cons ((ta4.tm tm46).tm tm68) (.cons (.int _) .nil))) (fun p9 H9 hp9 s9 t9 => ?_)
    walk_at "v"
    exact two (G := H) (G1 := H) (p1 := .non) (((f06.tr (Fr.same s7)).tr (Fr.ex et x8 (by simp))).tr (Fr.same s9)) (((P6.same s7).ex x8 hta.symm).same s9) (((d6.same s7).ex x8 hrt et).same s9) (e8.same s9) t9 (st_two ar oko szo (.eq ko))
  walk_at "v"
  by_cases z5 : v3 = 5
  · subst z5
    refine ev_lst (ds := [gALL, gSOME].map fun w => PyData.str (S w)) (by walk_at "d") (fun lw H4' h4' s4' dw => ?_)
    walk_at "v"
    refine l_ix (n := 0) (d := .str (S gALL)) dw rfl (fun xw tw => ?_)
    have d4 := d4.same s4'
    have e4 := e4.same s4'
    have f04 := f04.tr (Fr.same s4')
    have P4 := P4.same s4'
    have tb4 := tb4.tm (Tm.same s4')
    have txo := txo.tm (Tm.same s4')
    have ta4 := ta4.tm (Tm.same s4')
    rw [tw.txt]
    walk_at "v"
    refine l_ty d4 ?_
    walk_at "v"
    refine ev_lst (ds := gd [.app, .tip (.cst gALL (.to (.to ko bK) bK))]) (eva_cons (by show Ev _ _ _ (.tuple [.str (S wAPP)]); walk_at "d") (eva_cons (by show Ev _ _ _ (.tuple [.str (S wCONST), .str (S gALL), .tuple [.str (S wTO), .tuple [.str (S wTO), ko.d, bK.d], bK.d]]); walk_at "d") eva_nil)) (fun l5 H5 h5 s5 d5 => ?_)
    walk_at "v"
    refine l_extL (d4.same s5) d5 (fun H6 d6 x6 => ?_) (by rw [gd_len, gd_len]; show c.length + 2 ≤ 100000; omega)
    rw [← gd_app] at d6
    obtain ⟨_, er⟩ := (d4.same s5).lst
    have f06 := (f04.tr (Fr.same s5)).tr (Fr.ex er x6 (by simp))
    have tm46 := (Tm.same s5).tr (Tm.ex er x6)
    have e6 := (e4.same s5).ex x6 hrt.symm er
    have P6 := (P4.same s5).ex x6 hra.symm
    walk_at "v"
    refine l_ty e6 ?_
    walk_at "v"
    refine w_tupN ?_
    walk_at "v"
    refine w_tupN ?_
    walk_at "v"
    refine t_new (ds := [.str (S wTO), ko.d, bK.d]) (.cons (.str _) (.cons (txo.tm tm46) (.cons (tb4.tm tm46) .nil))) (fun p7 H7 hp7 s7 t7 => ?_)
    walk_at "v"
    refine t_new (ds := [(Kd.to ko bK).d, arD ar, .int ((0 : Nat) : Int)]) (.cons t7 (.cons ((ta4.tm tm46).tm (Tm.same s7)) (.cons (.int _) .nil))) (fun p8 H8 hp8 s8 t8 => ?_)
    walk_at "v"
    have s68 := s7.tr s8
    exact fin1 (f06.tr (Fr.same s68)) (P6.same s68) (d6.same s68) (e6.same s68) t8 (st_q ar oko szo (by simp))
  have z6 : v3 = 6 := by omega
  subst z6
  refine ev_lst (ds := [gALL, gSOME].map fun w => PyData.str (S w)) (by walk_at "d") (fun lw H4' h4' s4' dw => ?_)
  walk_at "v"
  refine l_ix (n := 1) (d := .str (S gSOME)) dw rfl (fun xw tw => ?_)
  have d4 := d4.same s4'
  have e4 := e4.same s4'
  have f04 := f04.tr (Fr.same s4')
  have P4 := P4.same s4'
  have tb4 := tb4.tm (Tm.same s4')
  have txo := txo.tm (Tm.same s4')
  have ta4 := ta4.tm (Tm.same s4')
  rw [tw.txt]
  walk_at "v"
  refine l_ty d4 ?_
  walk_at "v"
  refine ev_lst (ds := gd [.app, .tip (.cst gSOME (.to (.to ko bK) bK))]) (eva_cons (by show Ev _ _ _ (.tuple [.str (S wAPP)]); walk_at "d") (eva_cons (by show Ev _ _ _ (.tuple [.str (S wCONST), .str (S gSOME), .tuple [.str (S wTO), .tuple [.str (S wTO), ko.d, bK.d], bK.d]]); walk_at "d") eva_nil)) (fun l5 H5 h5 s5 d5 => ?_)
  walk_at "v"
  refine l_extL (d4.same s5) d5 (fun H6 d6 x6 => ?_) (by rw [gd_len, gd_len]; show c.length + 2 ≤ 100000; omega)
  rw [← gd_app] at d6
  obtain ⟨_, er⟩ := (d4.same s5).lst
  have f06 := (f04.tr (Fr.same s5)).tr (Fr.ex er x6 (by simp))
  have tm46 := (Tm.same s5).tr (Tm.ex er x6)
  have e6 := (e4.same s5).ex x6 hrt.symm er
  have P6 := (P4.same s5).ex x6 hra.symm
  walk_at "v"
  refine l_ty e6 ?_
  walk_at "v"
  refine w_tupN ?_
  walk_at "v"
  refine w_tupN ?_
  walk_at "v"
  refine t_new (ds := [.str (S wTO), ko.d, bK.d]) (.cons (.str _) (.cons (txo.tm tm46) (.cons (tb4.tm tm46) .nil))) (fun p7 H7 hp7 s7 t7 => ?_)
  walk_at "v"
  refine t_new (ds := [(Kd.to ko bK).d, arD ar, .int ((0 : Nat) : Int)]) (.cons t7 (.cons ((ta4.tm tm46).tm (Tm.same s7)) (.cons (.int _) .nil))) (fun p8 H8 hp8 s8 t8 => ?_)
  walk_at "v"
  have s68 := s7.tr s8
  exact fin1 (f06.tr (Fr.same s68)) (P6.same s68) (d6.same s68) (e6.same s68) t8 (st_q ar oko szo (by simp))

end
end K03

namespace K03
open PySem PySem.Spec PyProof.Rows L2 SX K02 K01
local macro_rules | `(tactic| walk_at "w1") => `(tactic| (first
  | with_reducible refine w_seq ?_ | with_reducible refine w_asgN ?_ | with_reducible refine w_c ?_
  | ((with_reducible refine' w_var ?wv ?_); (case wv => exact rfl))
  | with_reducible refine w_op ?_ | with_reducible refine w_un ?_ | with_reducible refine w_next ?_ | with_reducible refine w_brk ?_ | with_reducible refine w_cnt ?_
  | with_reducible refine w_ifS ?_ | with_reducible refine w_if ?_ | with_reducible refine w_test ?_ | with_reducible refine w_tB ?_ | with_reducible refine w_bl ?_ | with_reducible refine w_blI ?_
  | with_reducible refine w_and ?_ | with_reducible refine w_or ?_ | with_reducible refine w_not ?_ | with_reducible refine w_andV ?_ | with_reducible refine w_orV ?_ | with_reducible refine w_notV ?_
  | with_reducible refine w_nil ?_ | with_reducible refine w_cons ?_ | with_reducible refine w_cb ?_ | with_reducible refine w_call ?_ | with_reducible refine w_callS ?_ | with_reducible refine w_chain ?_
  | with_reducible refine w_tupN ?_ | with_reducible refine w_lstN ?_ | with_reducible refine w_sl ?_ | with_reducible refine w_noPart ?_ | with_reducible refine w_part ?_ | with_reducible refine w_partI ?_
  | with_reducible refine w_ret ?_ | with_reducible refine w_retN ?_ | with_reducible refine w_drop ?_ | with_reducible refine w_asg ?_ | with_reducible refine w_gSub ?_
  | ((with_reducible refine' w_aug ?wv ?_); (case wv => exact rfl)) | with_reducible refine w_ipI ?_
  | with_reducible refine w_addI ?_ | with_reducible refine w_subI ?_ | with_reducible refine w_ltI ?_ | with_reducible refine w_leI ?_ | with_reducible refine w_gtI ?_ | with_reducible refine w_geI ?_
  | with_reducible refine w_eqI ?_ | with_reducible refine w_neI ?_ | with_reducible refine w_eqT ?_ | with_reducible refine w_neT ?_ | with_reducible refine w_inS ?_ | with_reducible refine w_ninS ?_
  | with_reducible refine w_absI ?_ | with_reducible refine w_intI ?_ | with_reducible refine w_maxI ?_ | with_reducible refine w_minI ?_
  | with_reducible refine w_for ?_ | with_reducible refine w_iR1 ?_ | with_reducible refine w_iR2 ?_ | with_reducible refine w_iStr ?_ | with_reducible refine w_strI ?_ | with_reducible refine w_iList ?_ | with_reducible refine w_iTup ?_
  | with_reducible refine w_bm ?_ | with_reducible refine w_bm0 ?_ | with_reducible refine w_t ?_ | with_reducible refine w_f ?_ | with_reducible refine w_nt ?_ | with_reducible refine w_nx ?_ | with_reducible refine w_rt ?_ | with_reducible refine w_bk ?_ | with_reducible refine w_ct ?_ | with_reducible refine w_nf ?_ | with_reducible refine w_lc ?_ | with_reducible refine w_yes ?_ | with_reducible refine w_neg ?_ | with_reducible refine w_intB ?_ | with_reducible refine w_fld ?_ | with_reducible refine w_setf ?_ | with_reducible refine w_faug ?_ | with_reducible refine w_meth ?_ | with_reducible refine w_bmS ?_ | with_reducible refine w_start ?_ | with_reducible refine w_revL ?_ | with_reducible refine w_iR3 ?_))
local macro_rules | `(tactic| walk_at "w") => `(tactic| (repeat (first | walk_at "w1" | dsimp (config := { proj := false }) only [List.set_cons_zero, List.set_cons_succ])))
section
variable {w : World} [Lit] {mg : Str → Option Value} {base : Heap}
local macro_rules | `(tactic| walk_at "v1") => `(tactic| (first
  | with_reducible refine w_seq ?_ | with_reducible refine w_asgN ?_ | with_reducible refine w_c ?_
  | ((with_reducible refine' w_var ?wv ?_); (case wv => exact rfl))
  | with_reducible refine w_op ?_ | with_reducible refine w_un ?_ | with_reducible refine w_next ?_ | with_reducible refine w_brk ?_ | with_reducible refine w_cnt ?_
  | with_reducible refine w_ifS ?_ | with_reducible refine w_if ?_ | with_reducible refine w_test ?_ | with_reducible refine w_tB ?_ | with_reducible refine w_bl ?_ | with_reducible refine w_blI ?_
  | with_reducible refine w_and ?_ | with_reducible refine w_or ?_ | with_reducible refine w_not ?_ | with_reducible refine w_andV ?_ | with_reducible refine w_orV ?_ | with_reducible refine w_notV ?_
  | with_reducible refine w_nil ?_ | with_reducible refine w_cons ?_ | with_reducible refine w_cb ?_ | with_reducible refine w_call ?_ | with_reducible refine w_callS ?_ | with_reducible refine w_chain ?_
  | with_reducible refine w_sl ?_ | with_reducible refine w_noPart ?_ | with_reducible refine w_part ?_ | with_reducible refine w_partI ?_
  | with_reducible refine w_ret ?_ | with_reducible refine w_retN ?_ | with_reducible refine w_drop ?_ | with_reducible refine w_asg ?_ | with_reducible refine w_gSub ?_
  | ((with_reducible refine' w_aug ?wv ?_); (case wv => exact rfl)) | with_reducible refine w_ipI ?_
  | with_reducible refine w_addI ?_ | with_reducible refine w_subI ?_ | with_reducible refine w_ltI ?_ | with_reducible refine w_leI ?_ | with_reducible refine w_gtI ?_ | with_reducible refine w_geI ?_
  | with_reducible refine w_eqI ?_ | with_reducible refine w_neI ?_ | with_reducible refine w_eqT ?_ | with_reducible refine w_neT ?_ | with_reducible refine w_inS ?_ | with_reducible refine w_ninS ?_
  | with_reducible refine w_absI ?_ | with_reducible refine w_intI ?_ | with_reducible refine w_maxI ?_ | with_reducible refine w_minI ?_
  | with_reducible refine w_for ?_ | with_reducible refine w_iR1 ?_ | with_reducible refine w_iR2 ?_ | with_reducible refine w_iStr ?_ | with_reducible refine w_strI ?_ | with_reducible refine w_iList ?_ | with_reducible refine w_iTup ?_
  | with_reducible refine w_bm ?_ | with_reducible refine w_bm0 ?_ | with_reducible refine w_t ?_ | with_reducible refine w_f ?_ | with_reducible refine w_nt ?_ | with_reducible refine w_nx ?_ | with_reducible refine w_rt ?_ | with_reducible refine w_bk ?_ | with_reducible refine w_ct ?_ | with_reducible refine w_nf ?_ | with_reducible refine w_lc ?_ | with_reducible refine w_yes ?_ | with_reducible refine w_neg ?_ | with_reducible refine w_intB ?_ | with_reducible refine w_fld ?_ | with_reducible refine w_setf ?_ | with_reducible refine w_faug ?_ | with_reducible refine w_meth ?_ | with_reducible refine w_bmS ?_ | with_reducible refine w_start ?_ | with_reducible refine w_revL ?_ | with_reducible refine w_iR3 ?_))
local macro_rules | `(tactic| walk_at "v") => `(tactic| (repeat (first | walk_at "v1" | dsimp (config := { proj := false }) only [List.set_cons_zero, List.set_cons_succ])))
local macro_rules | `(tactic| walk_at "d") => `(tactic| (repeat (first | exact eva_nil | refine eva_cons ?_ ?_ | exact ev_str | exact ev_int | exact ev_neg | refine ev_tup ?_ | exact ev_var rfl (.str _) | exact ev_var rfl (.int _) | (refine ev_var rfl ?_; assumption))))

theorem ite_els {b : Bool} {X Z : Prop} (hz : Z) (hx : Z → b = true → X) : if b = true then X else Z := by
  cases b with
  | true => rw [if_pos rfl]; exact hx hz rfl
  | false => rw [if_neg Bool.false_ne_true]; exact hz

theorem EOk.mono {i : Nat} {e : E3} (h : EOk i e) : EOk (i + 1) e := ⟨h.1, h.2.1, h.2.2.1, h.2.2.2.1, Nat.le_succ_of_le h.2.2.2.2⟩
def sp_law_grown : Sp := sp5 fun x y z u v H Q _ => ∃ (a p q : Addr) (k : Kd) (m : Nat) (ws : List (List Nat)), x = .ref a ∧ TD H y k.d ∧ z = .ref p ∧ u = .ref q ∧ v = .int (m : Int) ∧ Pot a H ∧ NmW ws H p ∧ PoL H q ∧ k.ok ∧ k.sz ≤ 55 ∧ m ≤ 50 ∧
  ∀ r H' (c : List G2), H r = none → DL H' r (gd c) → TF c [(k, [])] → (∀ r ∈ c, r.gok ∧ fine ws r) → c.length ≤ 4 * m + 1 → Pot a H' → Kb a H H' → Q (.ref r) H'
theorem ok_law_grown (T : Txt w K mg) {fd : FuncData} (F : Fn_law_grown K fd) (hm : mg "_law_grown" = some (.ref (He.ga K "_law_grown"))) (c_law_take : CalX P w K mg base CX0 1 "_law_take" sp_law_take)(c_law_tip : CalX P w K mg base CX0 2 "_law_tip" sp_law_tip)(c_law_grow_formula : CalX P w K mg base CX0 2 "_law_grow_formula" sp_law_grow_formula) : CalX P w K mg base CX0 3 "_law_grown" sp_law_grown := by
  refine calx0 (k := 2) F hm sc_law_grown (b_law_grown F) (fun _ _ _ _ h => sp5_len h) (fun cdv A outer s H vs Q E hr h => ?_)
  obtain ⟨x0, x1, x2, x3, x4, rfl, h⟩ := h
  refine ⟨_, (pss_cons (ps_set (i := 5) sc_law_grown.nd rfl (Or.inl rfl) (pe_lst pa_nil))
    (pss_cons (ps_set (i := 6) sc_law_grown.nd rfl (Or.inl rfl) pe_int)
    (pss_cons (ps_set (i := 7) sc_law_grown.nd rfl (Or.inl rfl) (pe_tup (pa_cons pe_str (pa_cons pe_str pa_nil))))
    (Evl.pss_cut (ps_if (PW.pt (pw_and (pt_cmpR (op_notInN hr) (pv 1) (pv 3) rfl) (pw_and1 (pt_cmpR (op_neN hr) (pv 1) (pv 7) (nomark _)))))
    (pss_one (ps_set (i := 6) sc_law_grown.nd rfl (Or.inl rfl) pe_int))
    pss_nil)
    (pss_cons (ps_set (i := 8) sc_law_grown.nd rfl (Or.inl rfl) (pe_lst (pa_cons (pe_tup (pa_cons (pv 1) (pa_cons (pe_tup pa_nil) (pa_cons (pv 6) pa_nil)))) pa_nil)))
    (pss_cons (ps_for PassesOwn.never rfl (pi_range1 (by rfl) T.f_range (pa_cons (pe_op op_addI (pe_op op_mulI pe_int (pv 4)) pe_int) pa_nil)) (pg_name (i := 9) sc_law_grown.nd rfl (Or.inl rfl))
    (pss_cons (ps_if (pt_not (pt_truth (pv 8) (by intro _; rfl)))
    (pss_one ps_break)
    pss_nil)
    (pss_cons (ps_asg (pe_bm0 PySem.F.plainAttrs_list PySem.F.slot_list_pop PySem.F.type_list_pop mt_pop (pv 8)) (pg_tup (by rfl) (pgs_cons (pg_name (i := 1) sc_law_grown.nd rfl (Or.inl rfl)) (pgs_cons (pg_name (i := 10) sc_law_grown.nd rfl (Or.inl rfl)) (pgs_cons (pg_name (i := 6) sc_law_grown.nd rfl (Or.inl rfl)) pgs_nil)))))
    (pss_cons (ps_set (i := 11) sc_law_grown.nd rfl (Or.inl rfl) (pe_cx c_law_take hr (by decide) rfl pass0 (pa_cons (pv 0) (pa_cons pe_int pa_nil))))
    (pss_one (ps_if (PW.pt (pw_and (pt_cmpR op_ltI (pv 9) (pv 4) (nomark _)) (pw_and (pt_cmpR op_ltI (pv 11) pe_int (nomark _)) (pw_and1 (pt_cmpR (op_eqN hr) (pv 1) (pv 7) (nomark _))))))
    (pss_one (ps_expr (pe_cx c_law_grow_formula hr (by decide) rfl pass0 (pa_cons (pv 0) (pa_cons (pv 3) (pa_cons (pv 10) (pa_cons (pv 5) (pa_cons (pv 8) pa_nil))))))))
    (pss_one (ps_if (PW.pt (pw_and (pt_cmpR op_ltI (pv 9) (pv 4) (nomark _)) (pw_and (pt_cmpR op_ltI (pv 11) pe_int (nomark _)) (pw_and (pt_cmpR op_eq (pe_ix ix_tup (pv 1) pe_int (fun _ _ => rfl)) pe_str (nomark _)) (pw_and1 (pt_cmpR op_gtI (pv 11) pe_int (nomark _)))))))
    (pss_cons (ps_expr (pe_bm PySem.F.plainAttrs_list PySem.F.slot_list_append PySem.F.type_list_append mt_append (pv 5) (pa_cons (pe_tup (pa_cons pe_str (pa_cons (pe_ix ix_tup (pv 1) pe_int (fun _ _ => rfl)) pa_nil))) pa_nil)))
    (pss_one (ps_expr (pe_bm PySem.F.plainAttrs_list PySem.F.slot_list_append PySem.F.type_list_append mt_append (pv 8) (pa_cons (pe_tup (pa_cons (pe_ix ix_tup (pv 1) pe_int (fun _ _ => rfl)) (pa_cons (pe_op op_catT (pe_tup (pa_cons (pe_ix ix_tup (pv 1) pe_int (fun _ _ => rfl)) pa_nil)) (pv 10)) (pa_cons (pv 6) pa_nil)))) pa_nil)))))
    (pss_one (ps_if (PW.pt (pw_and (pt_cmpR op_ltI (pv 9) (pv 4) (nomark _)) (pw_and (pt_cmpR op_ltI (pv 11) pe_int (nomark _)) (pw_and1 (pt_cmpR op_ltI (pv 6) pe_int (nomark _))))))
    (pss_cons (ps_set (i := 12) sc_law_grown.nd rfl (Or.inl rfl) (pe_ix ix_list (pv 3) (pe_cx c_law_take hr (by decide) rfl pass0 (pa_cons (pv 0) (pa_cons pe_int pa_nil))) (fun _ _ => rfl)))
    (pss_cons (ps_expr (pe_bm PySem.F.plainAttrs_list PySem.F.slot_list_append PySem.F.type_list_append mt_append (pv 5) (pa_cons (pe_tup (pa_cons pe_str pa_nil)) pa_nil)))
    (pss_cons (ps_expr (pe_bm PySem.F.plainAttrs_list PySem.F.slot_list_append PySem.F.type_list_append mt_append (pv 8) (pa_cons (pe_tup (pa_cons (pv 12) (pa_cons (pv 10) (pa_cons pe_int pa_nil)))) pa_nil)))
    (pss_one (ps_expr (pe_bm PySem.F.plainAttrs_list PySem.F.slot_list_append PySem.F.type_list_append mt_append (pv 8) (pa_cons (pe_tup (pa_cons (pe_tup (pa_cons pe_str (pa_cons (pv 12) (pa_cons (pv 1) pa_nil)))) (pa_cons (pv 10) (pa_cons (pe_op op_addI (pv 6) pe_int) pa_nil)))) pa_nil)))))))
    (pss_one (ps_expr (pe_bm PySem.F.plainAttrs_list PySem.F.slot_list_append PySem.F.type_list_append mt_append (pv 5) (pa_cons (pe_cx c_law_tip hr (by decide) rfl pass0 (pa_cons (pv 0) (pa_cons (pv 1) (pa_cons (pv 10) (pa_cons (pv 2) pa_nil))))) pa_nil))))))))))))))
    (pss_one (ps_ret (pv 5))))))))), ?_⟩
  rw [show start ["pot", "kind", "words", "pool", "most", "code", "spent", "truth", "todo", "turn", "around", "way", "other"] [x0, x1, x2, x3, x4] = [some x0, some x1, some x2, some x3, some x4, none, none, none, none, none, none, none, none] from rfl]
  have ec0 : Str.ofString "named" = S [110,97,109,101,100] := S_ofs (by decide +kernel)
  have ec1 : Str.ofString "bool" = S [98,111,111,108] := S_ofs (by decide +kernel)
  have ec2 : Str.ofString "to" = S [116,111] := S_ofs (by decide +kernel)
  have ec3 : Str.ofString "lam" = S [108,97,109] := S_ofs (by decide +kernel)
  have ec4 : Str.ofString "app" = S [97,112,112] := S_ofs (by decide +kernel)
  rw [ec0, ec1, ec2, ec3, ec4]
  obtain ⟨a, p, q, k, m, ws, rfl, hk, rfl, rfl, rfl, hP, hW, hL, hko, hks, hm, hQ⟩ := h
  have hpa : p ≠ a := hW.ne hP
  have hqa : q ≠ a := hL.ne hP (by omega)
  try dsimp only [cxOf]
  walk_at "v"
  refine ev_lst (ds := gd []) (by walk_at "d") (fun r H1 hr1 s1 d1 => ?_)
  walk_at "v"
  refine ev_go (d := bK.d) (by show Ev _ _ _ (.tuple [.str (S wNAMED), .str (S wBOOL)]); walk_at "d") (fun xb H2 s2 tb => ?_)
  walk_at "v"
  have s02 := s1.tr s2
  refine w_mid (fun σ H' => H' = H2 ∧ ∃ sp : Nat, σ = [some (.ref a), some x1, some (.ref p), some (.ref q), some (.int (m : Int)), some (.ref r), some (.int (sp : Int)), some xb, none, none, none, none, none] ∧ k.sz ≤ 7 + 6 * sp ∧ sp ≤ 8) ?_ ?_
  · walk_at "v"
    have szk : Sz 180 k.d := Kd.Sz hko (by have := k.ht_sz; omega)
    obtain ⟨ks, hks1, hks2, hks3⟩ := hL.same s02
    refine d_ninL (hk.tm (Tm.same s02)) hks1 szk (KL.sz (n := 0) hks3 (by omega)) ?_
    rw [kds_any]
    walk_at "v"
    refine w_ndec (fun h1 => ?_) (fun h1 => ?_)
    · walk_at "v"
      refine d_ne (hk.tm (Tm.same s02)) tb szk (sz_lit (k := bK) bK_ok (by decide)) ?_
      rw [Kd.eqv]
      walk_at "v"
      refine w_ndec (fun h2 => ?_) (fun h2 => ?_)
      · walk_at "v"
        exact ⟨rfl, 8, rfl, by omega, by omega⟩
      · walk_at "v"
        exact ⟨rfl, 0, rfl, by rw [h2]; exact Nat.le_of_ble_eq_true rfl, by omega⟩
    · walk_at "v"
      exact ⟨rfl, 0, rfl, by have := (hks3 k h1).2; omega, by omega⟩
  rintro σ H' ⟨rfl, sp, rfl, hsp, hsp8⟩
  walk_at "v"
  refine w_lstN ?_
  walk_at "v"
  refine w_tupN ?_
  walk_at "v"
  refine w_tupN ?_
  walk_at "v"
  refine t_new .nil (fun p3 H3 hp3 s3 t3 => ?_)
  walk_at "v"
  refine t_new (ds := [k.d, arD [], .int (sp : Int)]) (.cons (hk.tm (Tm.same (s02.tr s3))) (.cons t3 (.cons (.int _) .nil))) (fun p4 H4 hp4 s4 t4 => ?_)
  walk_at "v"
  refine l_new (ds := [(k, ([] : List Kd), sp)].map e3) (.cons t4 .nil) (fun td H5 htd s5 d5 => ?_)
  walk_at "v"
  have s04 := (s02.tr s3).tr s4
  have s05 := s04.tr s5
  have htd0 : H td = none := s04.fresh htd
  have hra : r ≠ a := hP.ne hr1
  have hta : td ≠ a := hP.ne htd0
  have s25 := (s3.tr s4).tr s5
  have hrt : r ≠ td := fun z => by
    obtain ⟨_, e⟩ := d1.lst
    rw [z] at e
    rw [((s2.tr s3).tr s4) _ _ e] at htd; cases htd
  have hWl : ∃ xs, H p = some (.lst xs) := let ⟨⟨xs, e, _⟩, _⟩ := hW; ⟨xs, e⟩
  have hpr : p ≠ r := fun z => by obtain ⟨_, e⟩ := hWl; rw [z, hr1] at e; cases e
  have hqr : q ≠ r := fun z => by obtain ⟨_, e⟩ := hL.lst; rw [z, hr1] at e; cases e
  have hpt : p ≠ td := fun z => by obtain ⟨_, e⟩ := hWl; rw [z, htd0] at e; cases e
  have hqt : q ≠ td := fun z => by obtain ⟨_, e⟩ := hL.lst; rw [z, htd0] at e; cases e
  have fp : p ∉ [a, r, td] := by simp [hpa, hpr, hpt]
  have fq : q ∉ [a, r, td] := by simp [hqa, hqr, hqt]
  have W5 := hW.same s05
  have L5 := hL.same s05
  have P5 := hP.same s05
  have tb5 := tb.tm (Tm.same s25)
  clear hk hW hL
  refine w_mulI (.inr (by omega)) ?_
  walk_at "v"
  refine w_rg1 (by omega) (by omega) ?_
  rw [show ((2 : Int) * (m : Int) + 1).toNat = 2 * m + 1 by omega]
  have fin : ∀ {H' : Hp} {c : List G2} {es : List E3}, es = [] → DL H' r (gd c) → PT k c (psOf es) → (∀ r ∈ c, r.gok ∧ fine ws r) → c.length ≤ 4 * m + 1 → Pot a H' → Fr [a, r, td] H5 H' → Q (.ref r) H' := fun {H' c es} he q1 q2 q3 q5 q6 q7 => by
    subst he
    refine hQ r H' c hr1 q1 (PT.done q2) q3 q5 q6 fun b o n e => ?_
    refine q7.2 b o ?_ (s05 _ _ e)
    intro hm
    rcases List.mem_cons.mp hm with z | hm
    · exact n z
    rcases List.mem_cons.mp hm with z | hm
    · rw [z, hr1] at e; cases e
    · rw [List.mem_singleton.mp hm, htd0] at e; cases e
  refine for_range (fun i σ H' => ∃ (c : List G2) (es : List E3) (v1 v6 v9 v10 v11 v12 : Option V), σ = [some (.ref a), v1, some (.ref p), some (.ref q), some (.int (m : Int)), some (.ref r), v6, some xb, some (.ref td), v9, v10, v11, v12] ∧ DL H' r (gd c) ∧ DL H' td (es.map e3) ∧ PT k c (psOf es) ∧ (∀ r ∈ c, r.gok ∧ fine ws r) ∧ (i ≤ m → c.length ≤ 3 * i) ∧ (m ≤ i → c.length ≤ 2 * m + i) ∧ (∀ e ∈ es, EOk i e) ∧
      (i ≤ m → es.length ≤ 1 + i) ∧ (m < i → es.length + i ≤ 1 + 2 * m) ∧ Pot a H' ∧ Fr [a, r, td] H5 H')
    ⟨[], [(k, [], sp)], _, _, _, _, _, _, rfl, d1.same (s2.tr s25), d5, PT.nil, (fun r hr => absurd hr List.not_mem_nil), (fun _ => Nat.zero_le _), (fun _ => Nat.zero_le _), (fun e he => by rw [List.mem_singleton.mp he]; exact ⟨hko, hsp, hsp8, (fun x hx => absurd hx List.not_mem_nil), Nat.zero_le _⟩), (fun _ => Nat.le_refl _), (fun z => by omega), P5, Fr.same (Same.refl' _)⟩ ?_ ?_
  · rintro i σ G hi ⟨c, es, v1, v6, v9, v10, v11, v12, rfl, dc, de, pv, hg, hc1, hc2, heo, hb1, hb2, P0, f0⟩
    have hi : i < 2 * m + 1 := hi
    have hcl : c.length ≤ 250 := by
      by_cases z : i ≤ m
      · have := hc1 z; omega
      · have := hc2 (by omega); omega
    dsimp only [gName]
    walk_at "v"
    refine l_truth de ?_
    rw [show decide (es.map e3 ≠ []) = decide (es ≠ []) from map_ne]
    by_cases he : es = []
    · rw [decide_eq_false (by simp [he])]
      walk_at "v"
      exact fin he dc pv hg (by
        by_cases z : i ≤ m
        · have := hc1 z; omega
        · have := hc2 (by omega); omega) P0 f0
    obtain ⟨es, ⟨kd, ar, s0⟩, rfl⟩ := snoc_of he
    rw [decide_eq_true he]
    walk_at "v"
    refine l_ty de ?_
    rw [List.map_append] at de
    walk_at "v"
    refine l_pop de (fun x G1 tx de1 x1' => ?_)
    obtain ⟨_, dl⟩ := de.lst
    have dc1 := dc.ex x1' hrt dl
    have P1 := P0.ex x1' hta.symm
    have f1 := f0.tr (Fr.ex dl x1' (by simp))
    obtain ⟨xa, xs, rfl, hxa, txs⟩ := tx.tuple
    obtain ⟨yk, yr, ys, rfl, tk, tr, ts⟩ := txs.three
    rw [ts.num] at hxa
    refine w_un3 rfl hxa ?_
    walk_at "v"
    obtain ⟨oko, osz, os8, oar, oal⟩ := heo (kd, ar, s0) (by simp)
    have oko : kd.ok := oko
    have osz : kd.sz ≤ 7 + 6 * s0 := osz
    have os8 : s0 ≤ 8 := os8
    have oar : ∀ x ∈ ar, x.ok ∧ x.sz ≤ 55 := oar
    have oal : ar.length ≤ i := oal
    have heo' : ∀ e ∈ es, EOk (i + 1) e := fun e' he' => (heo e' (List.mem_append_left _ he')).mono
    rw [List.length_append] at hb1 hb2
    rw [psOf_snoc] at pv
    have pv : PT k c ((kd, ar) :: psOf es) := pv
    have hb1 : i ≤ m → es.length + 1 ≤ 1 + i := hb1
    have hb2 : m < i → es.length + 1 + i ≤ 1 + 2 * m := hb2
    have esl : es.length ≤ 200 := by
      by_cases z : i ≤ m
      · have := hb1 z; omega
      · have := hb2 (by omega); omega
    refine ⟨_, _, rfl, a, 6, rfl, rfl, by omega, by omega, P1, fun v2 H2' hv2 P2 k2 => ?_⟩
    walk_at "v"
    have f2 := f1.tr (Fr.kb P1 k2 (by simp))
    have tmk := Kb.pot_tm P1 k2
    have dc2 := DLkb dc1 P1 k2 hra
    have de2 := DLkb de1 P1 k2 hta
    have W2 := f2.nm W5 fp
    have L2' := f2.pol L5 fq
    have tk2 := tk.tm tmk
    have tr2 := tr.tm tmk
    have tb2 := tb5.tm f2.1
    have next : ∀ {H' : Hp} {u1 u6 u9 u10 u11 u12 : Option V} (c' : List G2) (es' : List E3), DL H' r (gd c') → DL H' td (es'.map e3) → PT k c' (psOf es') → (∀ r ∈ c', r.gok ∧ fine ws r) → c'.length ≤ c.length + 3 → (m ≤ i → c'.length ≤ c.length + 1) → (∀ e ∈ es', EOk (i + 1) e) → (es'.length ≤ es.length + 2) → (m ≤ i → es'.length ≤ es.length) → Pot a H' → Fr [a, r, td] H5 H' →
        ∃ (c : List G2) (es : List E3) (v1 v6 v9 v10 v11 v12 : Option V), [some (.ref a), u1, some (.ref p), some (.ref q), some (.int (m : Int)), some (.ref r), u6, some xb, some (.ref td), u9, u10, u11, u12] = [some (.ref a), v1, some (.ref p), some (.ref q), some (.int (m : Int)), some (.ref r), v6, some xb, some (.ref td), v9, v10, v11, v12] ∧ DL H' r (gd c) ∧ DL H' td (es.map e3) ∧ PT k c (psOf es) ∧ (∀ r ∈ c, r.gok ∧ fine ws r) ∧ (i + 1 ≤ m → c.length ≤ 3 * (i + 1)) ∧ (m ≤ i + 1 → c.length ≤ 2 * m + (i + 1)) ∧ (∀ e ∈ es, EOk (i + 1) e) ∧
      (i + 1 ≤ m → es.length ≤ 1 + (i + 1)) ∧ (m < i + 1 → es.length + (i + 1) ≤ 1 + 2 * m) ∧ Pot a H' ∧ Fr [a, r, td] H5 H' := fun {H' u1 u6 u9 u10 u11 u12} c' es' a1 a2 a3 a4 a6 a6' a7 a8 a9 a12 a13 =>
      ⟨c', es', _, _, _, _, _, _, rfl, a1, a2, a3, a4, (fun z => by have := hc1 (by omega); omega), (fun z => by
        by_cases zz : m ≤ i
        · have := a6' zz; have := hc2 zz; omega
        · have := hc1 (by omega); omega), a7, (fun z => by have := hb1 (by omega); omega), (fun z => by
        have h9 := a9 (by omega)
        by_cases zz : i = m
        · have := hb1 (by omega); omega
        · have := hb2 (by omega); omega), a12, a13⟩
    have hdc : (gd c).length ≤ 100000 := by rw [gd_len]; omega
    have hde : (es.map e3).length ≤ 100000 := by rw [List.length_map]; omega
    obtain ⟨krest, ekd⟩ := kw_d kd
    have tkw : TD H2' yk (.tuple (.str (S (kw kd)) :: krest)) := by rw [← ekd]; exact tk2
    have e0 : (0 : Int) + (i : Int) = (i : Int) := by omega
    rw [e0]
    have one : ∀ {x : G2}, x ∈ c → x.gok ∧ fine ws x := fun h => hg _ h
    refine ite_els ?_ (fun hZ1 g1 => ?_)
    · rw [if_neg Bool.false_ne_true]
      refine w_ifS ?_
      walk_at "v"
      refine ite_els ?_ (fun hZ2 g2 => ?_)
      · rw [if_neg Bool.false_ne_true]
        refine w_ifS ?_
        walk_at "v"
        refine ite_els ?_ (fun hZ3 g3 => ?_)
        · rw [if_neg Bool.false_ne_true]
          walk_at "v"
          refine l_ty dc2 ?_
          walk_at "v"
          refine ⟨_, _, _, _, rfl, a, p, kd, ar, ws, rfl, rfl, P2, W2, tk2, tr2, ⟨oko, by omega⟩, (fun x hx => ⟨(oar x hx).1, by have := (oar x hx).2; omega⟩), by omega, fun v3 H3 l hl hlw hlg hli t3 P3 k3 => ?_⟩
          walk_at "v"
          have dc3 := DLkb dc2 P2 k3 hra
          have de3 := DLkb de2 P2 k3 hta
          refine l_app dc3 t3 (fun H4 dc4 x4 => ?_) hdc
          obtain ⟨_, e⟩ := dc3.lst
          refine next (c ++ [Rw.tip l]) es (by rw [gd_snoc]; exact dc4) (de3.ex x4 hrt.symm e) (PT.tip pv hli) (fun x hx => ?_) (by rw [List.length_append]; show c.length + 1 ≤ c.length + 3; omega) (fun _ => by rw [List.length_append]; exact Nat.le_refl _) heo' (by omega) (fun z => Nat.le_refl _) (P3.ex x4 hra.symm) ((f2.tr (Fr.kb P2 k3 (by simp))).tr (Fr.ex e x4 (by simp)))
          rcases List.mem_append.mp hx with hx | hx
          · exact hg x hx
          · rw [List.mem_singleton.mp hx]; exact ⟨hl, fine_tip hlw hlg hli (by omega)⟩
        have him : i < m := by have := of_decide_eq_true g3; omega
        walk_at "v"
        refine ite_els hZ3 (fun _ g4 => ?_)
        walk_at "v"
        refine ite_els hZ3 (fun _ g5 => ?_)
        have g5 : decide ((s0 : Int) < 8) = true := g5
        have hs8 : s0 < 8 := by have := of_decide_eq_true g5; omega
        walk_at "v"
        refine ⟨_, _, rfl, a, 4, rfl, rfl, by omega, by omega, P2, fun v3 H3 hv3 P3 k3 => ?_⟩
        walk_at "v"
        have f3 := f2.tr (Fr.kb P2 k3 (by simp))
        refine (f3.pol L5 fq).ix hv3 (fun xo ko oko2 szo txo => ?_)
        walk_at "v"
        have dc3 := DLkb dc2 P2 k3 hra
        have de3 := DLkb de2 P2 k3 hta
        have m3 : Tm H2' H3 := Kb.pot_tm P2 k3
        refine l_ty dc3 ?_
        walk_at "v"
        refine w_tupN ?_
        walk_at "v"
        refine t_new (ds := [.str (S wAPP)]) (.cons (.str _) .nil) (fun p4 H4 hp4 s4 t4 => ?_)
        walk_at "v"
        refine l_app (dc3.same s4) t4 (fun H5' dc5 x5 => ?_) hdc
        obtain ⟨_, e⟩ := (dc3.same s4).lst
        have f5 := (f3.tr (Fr.same s4)).tr (Fr.ex e x5 (by simp))
        have P5' := (P3.same s4).ex x5 hra.symm
        have m5 : Tm H3 H5' := (Tm.same s4).tr (Tm.ex e x5)
        have de5 : DL H5' td (es.map e3) := (de3.same s4).ex x5 hrt.symm e
        walk_at "v"
        refine l_ty de5 ?_
        walk_at "v"
        refine w_tupN ?_
        walk_at "v"
        refine t_new (ds := [ko.d, arD ar, .int ((0 : Nat) : Int)]) (.cons (txo.tm m5) (.cons (tr2.tm (m3.tr m5)) (.cons (.int _) .nil))) (fun p6 H6 hp6 s6 t6 => ?_)
        walk_at "v"
        refine l_app (d := e3 (ko, ar, 0)) (de5.same s6) t6 (fun H7 de7 x7 => ?_) hde
        obtain ⟨_, e'⟩ := (de5.same s6).lst
        have f7 := (f5.tr (Fr.same s6)).tr (Fr.ex e' x7 (by simp))
        have P7 := (P5'.same s6).ex x7 hta.symm
        have m7 : Tm H5' H7 := (Tm.same s6).tr (Tm.ex e' x7)
        have dc7 : DL H7 r (gd c ++ [Rw.d (upR .app)]) := (dc5.same s6).ex x7 hrt e'
        have de7 : DL H7 td ((es ++ [(ko, ar, 0)]).map e3) := by rw [List.map_append]; exact de7
        walk_at "v"
        refine l_ty de7 ?_
        walk_at "v"
        refine w_tupN ?_
        walk_at "v"
        refine w_tupN ?_
        walk_at "v"
        refine t_new (ds := [.str (S wTO), ko.d, kd.d]) (.cons (.str _) (.cons (txo.tm (m5.tr m7)) (.cons (tk2.tm ((m3.tr m5).tr m7)) .nil))) (fun p8 H8 hp8 s8 t8 => ?_)
        walk_at "v"
        rw [show ((s0 : Int) + 1) = ((s0 + 1 : Nat) : Int) by omega]
        refine t_new (ds := [Kd.d (.to ko kd), arD ar, .int ((s0 + 1 : Nat) : Int)]) (.cons t8 (.cons (tr2.tm (((m3.tr m5).tr m7).tr (Tm.same s8))) (.cons (.int _) .nil))) (fun p9 H9 hp9 s9 t9 => ?_)
        walk_at "v"
        have s79 := s8.tr s9
        refine l_app (d := e3 (.to ko kd, ar, s0 + 1)) (de7.same s79) t9 (fun H10 de10 x10 => ?_) (by rw [List.length_map, List.length_append]; show es.length + 1 ≤ 100000; omega)
        obtain ⟨_, e''⟩ := (de7.same s79).lst
        have ele : ((es ++ [(ko, ar, 0)]) ++ [((.to ko kd : Kd), ar, s0 + 1)]).length = es.length + 2 := by rw [List.length_append, List.length_append]; rfl
        refine next (c ++ [.app]) ((es ++ [(ko, ar, 0)]) ++ [(.to ko kd, ar, s0 + 1)]) (by rw [gd_snoc]; exact (dc7.same s79).ex x10 hrt e'') (by rw [List.map_append]; exact de10) (by rw [psOf_snoc, psOf_snoc]; exact PT.app pv) (fun x hx => ?_) (by rw [List.length_append]; show c.length + 1 ≤ c.length + 3; omega) (fun _ => by rw [List.length_append]; exact Nat.le_refl _) (fun e he => ?_) (by omega) (fun z => by omega) ((P7.same s79).ex x10 hta.symm) ((f7.tr (Fr.same s79)).tr (Fr.ex e'' x10 (by simp)))
        · rcases List.mem_append.mp hx with hx | hx
          · exact hg x hx
          · rw [List.mem_singleton.mp hx]; exact ⟨trivial, trivial⟩
        · rcases List.mem_append.mp he with he | he
          · rcases List.mem_append.mp he with he | he
            · exact heo' e he
            · rw [List.mem_singleton.mp he]
              exact ⟨oko2, by show ko.sz ≤ 7 + 6 * 0; omega, Nat.zero_le _, oar, by show ar.length ≤ i + 1; omega⟩
          · rw [List.mem_singleton.mp he]
            exact ⟨⟨oko2, oko⟩, by show ko.sz + kd.sz + 1 ≤ 7 + 6 * (s0 + 1); omega, by show s0 + 1 ≤ 8; omega, oar, by show ar.length ≤ i + 1; omega⟩
      have him : i < m := by have := of_decide_eq_true g2; omega
      walk_at "v"
      refine ite_els hZ2 (fun _ g3 => ?_)
      walk_at "v"
      refine t_ixS (n := 0) tkw rfl ?_
      walk_at "v"
      refine ite_els hZ2 (fun _ g4 => ?_)
      walk_at "v"
      refine ite_els hZ2 (fun _ g5 => ?_)
      obtain ⟨ka, kb, rfl⟩ := kw_to (of_decide_eq_true g4)
      have tk2 : TD H2' yk (.tuple [.str (S wTO), ka.d, kb.d]) := tk2
      have oab : ka.sz + kb.sz + 1 ≤ 7 + 6 * s0 := osz
      walk_at "v"
      refine l_ty dc2 ?_
      walk_at "v"
      refine w_tupN ?_
      walk_at "v"
      refine t_ix (n := 1) tk2 rfl (fun xa txa => ?_)
      walk_at "v"
      refine t_new (ds := [.str (S wLAM), ka.d]) (.cons (.str _) (.cons txa .nil)) (fun p3 H3 hp3 s3 t3 => ?_)
      walk_at "v"
      refine l_app (dc2.same s3) t3 (fun H4 dc4 x4 => ?_) hdc
      obtain ⟨_, e⟩ := (dc2.same s3).lst
      have f4 := (f2.tr (Fr.same s3)).tr (Fr.ex e x4 (by simp))
      have P4 := (P2.same s3).ex x4 hra.symm
      have m4 : Tm H2' H4 := (Tm.same s3).tr (Tm.ex e x4)
      have de4 : DL H4 td (es.map e3) := (de2.same s3).ex x4 hrt.symm e
      walk_at "v"
      refine l_ty de4 ?_
      walk_at "v"
      refine w_tupN ?_
      walk_at "v"
      refine t_ix (n := 2) (tk2.tm m4) rfl (fun xb' txb => ?_)
      walk_at "v"
      refine w_tupN ?_
      walk_at "v"
      refine t_ix (n := 1) (tk2.tm m4) rfl (fun xa2 txa2 => ?_)
      walk_at "v"
      refine t_new (ds := [ka.d]) (.cons txa2 .nil) (fun p5 H5' hp5 s5' t5 => ?_)
      walk_at "v"
      refine t_cat t5 ((tr2.tm m4).tm (Tm.same s5')) (by simp) (fun z6 H6 s6 t6 => ?_) (by rw [List.length_map]; show 1 + ar.length ≤ 100000; omega)
      walk_at "v"
      refine t_new (ds := [kb.d, arD (ka :: ar), .int (s0 : Int)]) (.cons (txb.tm (Tm.same (s5'.tr s6))) (.cons t6 (.cons (.int _) .nil))) (fun p7 H7 hp7 s7 t7 => ?_)
      walk_at "v"
      have s47 := (s5'.tr s6).tr s7
      refine l_app (d := e3 (kb, ka :: ar, s0)) (de4.same s47) t7 (fun H8 de8 x8 => ?_) hde
      obtain ⟨_, e'⟩ := (de4.same s47).lst
      refine next (c ++ [.lam ka]) (es ++ [(kb, ka :: ar, s0)]) (by rw [gd_snoc]; exact (dc4.same s47).ex x8 hrt e') (by rw [List.map_append]; exact de8) (by rw [psOf_snoc]; exact PT.lam pv) (fun x hx => ?_) (by rw [List.length_append]; show c.length + 1 ≤ c.length + 3; omega) (fun _ => by rw [List.length_append]; exact Nat.le_refl _) (fun e he => ?_) (by rw [List.length_append]; show es.length + 1 ≤ _; omega) (fun z => by omega) ((P4.same s47).ex x8 hta.symm) ((f4.tr (Fr.same s47)).tr (Fr.ex e' x8 (by simp)))
      · rcases List.mem_append.mp hx with hx | hx
        · exact hg x hx
        · rw [List.mem_singleton.mp hx]; exact ⟨⟨oko.1, by omega⟩, show ka.sz ≤ 55 by omega⟩
      · rcases List.mem_append.mp he with he | he
        · exact heo' e he
        · rw [List.mem_singleton.mp he]
          refine ⟨oko.2, by show kb.sz ≤ 7 + 6 * s0; omega, os8, fun x hx => ?_, by show ar.length + 1 ≤ i + 1; omega⟩
          rcases List.mem_cons.mp hx with rfl | hx
          · exact ⟨oko.1, by omega⟩
          · exact oar x hx
    have him : i < m := by have := of_decide_eq_true g1; omega
    walk_at "v"
    refine ite_els hZ1 (fun _ g2 => ?_)
    walk_at "v"
    refine d_eq tk2 tb2 (Kd.Sz oko (by have := kd.ht_sz; omega)) (sz_lit (k := bK) bK_ok (by decide)) ?_
    rw [Kd.eqv]
    walk_at "v"
    refine ite_els hZ1 (fun _ g3 => ?_)
    have ekb : kd = bK := of_decide_eq_true g3
    rw [ekb] at pv
    walk_at "v"
    refine ⟨_, _, _, _, _, rfl, a, q, r, td, ar, c, es, rfl, rfl, tr2, rfl, rfl, P2, L2', dc2, de2, hrt, hqr, hqt, by omega, by omega, fun H3 rs ns d3 e3' st P3 f3 => ?_⟩
    obtain ⟨st1, st2, st3, st4, st5⟩ := st
    refine next (c ++ rs) (es ++ ns) d3 e3' (by
      have := st1 k c (psOf es) pv
      unfold psOf at this ⊢
      rw [List.map_append, List.reverse_append]; exact this) (fun x hx => ?_) (by rw [List.length_append]; omega) (fun z => by omega) (fun e he => ?_) (by rw [List.length_append]; omega) (fun z => by omega) P3 (f2.tr f3)
    · rcases List.mem_append.mp hx with hx | hx
      · exact hg x hx
      · exact st2 ws x hx
    · rcases List.mem_append.mp he with he | he
      · exact heo' e he
      · obtain ⟨b1, b2, b3⟩ := st5 e he
        refine ⟨b1, by omega, by rw [b3]; exact Nat.zero_le _, by rw [b3]; exact oar, by rw [b3]; show ar.length ≤ i + 1; omega⟩
  · rintro σ G ⟨c, es, v1, v6, v9, v10, v11, v12, rfl, dc, de, pv, hg, hc1, hc2, heo, hb1, hb2, P0, f0⟩
    walk_at "v"
    have := hb2 (by omega)
    exact fin (List.length_eq_zero_iff.mp (by omega)) dc pv hg (by have := hc2 (by omega); omega) P0 f0
end
end K03

namespace K03
open PySem PySem.Spec PyProof.Rows L2 SX K02 K01
local macro_rules | `(tactic| walk_at "w1") => `(tactic| (first
  | with_reducible refine w_seq ?_ | with_reducible refine w_asgN ?_ | with_reducible refine w_c ?_
  | ((with_reducible refine' w_var ?wv ?_); (case wv => exact rfl))
  | with_reducible refine w_op ?_ | with_reducible refine w_un ?_ | with_reducible refine w_next ?_ | with_reducible refine w_brk ?_ | with_reducible refine w_cnt ?_
  | with_reducible refine w_ifS ?_ | with_reducible refine w_if ?_ | with_reducible refine w_test ?_ | with_reducible refine w_tB ?_ | with_reducible refine w_bl ?_ | with_reducible refine w_blI ?_
  | with_reducible refine w_and ?_ | with_reducible refine w_or ?_ | with_reducible refine w_not ?_ | with_reducible refine w_andV ?_ | with_reducible refine w_orV ?_ | with_reducible refine w_notV ?_
  | with_reducible refine w_nil ?_ | with_reducible refine w_cons ?_ | with_reducible refine w_cb ?_ | with_reducible refine w_call ?_ | with_reducible refine w_callS ?_ | with_reducible refine w_chain ?_
  | with_reducible refine w_tupN ?_ | with_reducible refine w_lstN ?_ | with_reducible refine w_sl ?_ | with_reducible refine w_noPart ?_ | with_reducible refine w_part ?_ | with_reducible refine w_partI ?_
  | with_reducible refine w_ret ?_ | with_reducible refine w_retN ?_ | with_reducible refine w_drop ?_ | with_reducible refine w_asg ?_ | with_reducible refine w_gSub ?_
  | ((with_reducible refine' w_aug ?wv ?_); (case wv => exact rfl)) | with_reducible refine w_ipI ?_
  | with_reducible refine w_addI ?_ | with_reducible refine w_subI ?_ | with_reducible refine w_ltI ?_ | with_reducible refine w_leI ?_ | with_reducible refine w_gtI ?_ | with_reducible refine w_geI ?_
  | with_reducible refine w_eqI ?_ | with_reducible refine w_neI ?_ | with_reducible refine w_eqT ?_ | with_reducible refine w_neT ?_ | with_reducible refine w_inS ?_ | with_reducible refine w_ninS ?_
  | with_reducible refine w_absI ?_ | with_reducible refine w_intI ?_ | with_reducible refine w_maxI ?_ | with_reducible refine w_minI ?_
  | with_reducible refine w_for ?_ | with_reducible refine w_iR1 ?_ | with_reducible refine w_iR2 ?_ | with_reducible refine w_iStr ?_ | with_reducible refine w_strI ?_ | with_reducible refine w_iList ?_ | with_reducible refine w_iTup ?_
  | with_reducible refine w_bm ?_ | with_reducible refine w_bm0 ?_ | with_reducible refine w_t ?_ | with_reducible refine w_f ?_ | with_reducible refine w_nt ?_ | with_reducible refine w_nx ?_ | with_reducible refine w_rt ?_ | with_reducible refine w_bk ?_ | with_reducible refine w_ct ?_ | with_reducible refine w_nf ?_ | with_reducible refine w_lc ?_ | with_reducible refine w_yes ?_ | with_reducible refine w_neg ?_ | with_reducible refine w_intB ?_ | with_reducible refine w_fld ?_ | with_reducible refine w_setf ?_ | with_reducible refine w_faug ?_ | with_reducible refine w_meth ?_ | with_reducible refine w_bmS ?_ | with_reducible refine w_start ?_ | with_reducible refine w_revL ?_ | with_reducible refine w_iR3 ?_))
local macro_rules | `(tactic| walk_at "w") => `(tactic| (repeat (first | walk_at "w1" | dsimp (config := { proj := false }) only [List.set_cons_zero, List.set_cons_succ])))
section
variable {w : World} [Lit] {mg : Str → Option Value} {base : Heap}
local macro_rules | `(tactic| walk_at "v1") => `(tactic| (first
  | with_reducible refine w_seq ?_ | with_reducible refine w_asgN ?_ | with_reducible refine w_c ?_
  | ((with_reducible refine' w_var ?wv ?_); (case wv => exact rfl))
  | with_reducible refine w_op ?_ | with_reducible refine w_un ?_ | with_reducible refine w_next ?_ | with_reducible refine w_brk ?_ | with_reducible refine w_cnt ?_
  | with_reducible refine w_ifS ?_ | with_reducible refine w_if ?_ | with_reducible refine w_test ?_ | with_reducible refine w_tB ?_ | with_reducible refine w_bl ?_ | with_reducible refine w_blI ?_
  | with_reducible refine w_and ?_ | with_reducible refine w_or ?_ | with_reducible refine w_not ?_ | with_reducible refine w_andV ?_ | with_reducible refine w_orV ?_ | with_reducible refine w_notV ?_
  | with_reducible refine w_nil ?_ | with_reducible refine w_cons ?_ | with_reducible refine w_cb ?_ | with_reducible refine w_call ?_ | with_reducible refine w_callS ?_ | with_reducible refine w_chain ?_
  | with_reducible refine w_sl ?_ | with_reducible refine w_noPart ?_ | with_reducible refine w_part ?_ | with_reducible refine w_partI ?_
  | with_reducible refine w_ret ?_ | with_reducible refine w_retN ?_ | with_reducible refine w_drop ?_ | with_reducible refine w_asg ?_ | with_reducible refine w_gSub ?_
  | ((with_reducible refine' w_aug ?wv ?_); (case wv => exact rfl)) | with_reducible refine w_ipI ?_
  | with_reducible refine w_addI ?_ | with_reducible refine w_subI ?_ | with_reducible refine w_ltI ?_ | with_reducible refine w_leI ?_ | with_reducible refine w_gtI ?_ | with_reducible refine w_geI ?_
  | with_reducible refine w_eqI ?_ | with_reducible refine w_neI ?_ | with_reducible refine w_eqT ?_ | with_reducible refine w_neT ?_ | with_reducible refine w_inS ?_ | with_reducible refine w_ninS ?_
  | with_reducible refine w_absI ?_ | with_reducible refine w_intI ?_ | with_reducible refine w_maxI ?_ | with_reducible refine w_minI ?_
  | with_reducible refine w_for ?_ | with_reducible refine w_iR1 ?_ | with_reducible refine w_iR2 ?_ | with_reducible refine w_iStr ?_ | with_reducible refine w_strI ?_ | with_reducible refine w_iList ?_ | with_reducible refine w_iTup ?_
  | with_reducible refine w_bm ?_ | with_reducible refine w_bm0 ?_ | with_reducible refine w_t ?_ | with_reducible refine w_f ?_ | with_reducible refine w_nt ?_ | with_reducible refine w_nx ?_ | with_reducible refine w_rt ?_ | with_reducible refine w_bk ?_ | with_reducible refine w_ct ?_ | with_reducible refine w_nf ?_ | with_reducible refine w_lc ?_ | with_reducible refine w_yes ?_ | with_reducible refine w_neg ?_ | with_reducible refine w_intB ?_ | with_reducible refine w_fld ?_ | with_reducible refine w_setf ?_ | with_reducible refine w_faug ?_ | with_reducible refine w_meth ?_ | with_reducible refine w_bmS ?_ | with_reducible refine w_start ?_ | with_reducible refine w_revL ?_ | with_reducible refine w_iR3 ?_))
local macro_rules | `(tactic| walk_at "v") => `(tactic| (repeat (first | walk_at "v1" | dsimp (config := { proj := false }) only [List.set_cons_zero, List.set_cons_succ])))
local macro_rules | `(tactic| walk_at "d") => `(tactic| (repeat (first | exact eva_nil | refine eva_cons ?_ ?_ | exact ev_str | exact ev_int | exact ev_neg | refine ev_tup ?_ | (refine ev_var rfl ?_; assumption))))


def natR (l : List Nat) : List PyData := (l.map fun (n : Nat) => PyData.int (n : Int)).reverse
theorem natR_cons (n : Nat) (l : List Nat) : natR (n :: l) = natR l ++ [.int (n : Int)] := by unfold natR; rw [List.map_cons, List.reverse_cons]
theorem natR_len (l : List Nat) : (natR l).length = l.length := by unfold natR; rw [List.length_reverse, List.length_map]
def natI (l : List Nat) : List PyData := l.map fun (n : Nat) => PyData.int (n : Int)
theorem natI_snoc (n : Nat) (l : List Nat) : natI (l ++ [n]) = natI l ++ [.int (n : Int)] := by unfold natI; rw [List.map_append]; rfl
theorem natI_len (l : List Nat) : (natI l).length = l.length := List.length_map ..
theorem drop_row {κ τ : Type} {c : List (Rw κ τ)} {i : Nat} {r : Rw κ τ} (e : c[i]? = some r) : c.drop i = r :: c.drop (i + 1) := drop_at e
def sp_law_levels : Sp := sp1 fun x H Q _ => ∃ (p : Addr) (c : List G2), x = .ref p ∧ DL H p (gd c) ∧ fok c ∧ (fo c).length = 1 ∧ c.length ≤ 50000 ∧ ∀ q H', H q = none → Same H H' → DL H' q (natI (lvC c [0])) → Q (.ref q) H'
theorem ok_law_levels (T : Txt w K mg) {fd : FuncData} (F : Fn_law_levels K fd) (hm : mg "_law_levels" = some (.ref (He.ga K "_law_levels")))  : CalX P w K mg base CX0 1 "_law_levels" sp_law_levels := by
  refine calx0 (k := 0) F hm sc_law_levels (b_law_levels F) (fun _ _ _ _ h => sp1_len h) (fun cdv A outer s H vs Q E hr h => ?_)
  obtain ⟨x0, rfl, h⟩ := h
  refine ⟨_, (pss_cons (ps_set (i := 1) sc_law_levels.nd rfl (Or.inl rfl) (pe_lst (pa_cons pe_int pa_nil)))
    (pss_cons (ps_set (i := 2) sc_law_levels.nd rfl (Or.inl rfl) (pe_lst pa_nil))
    (pss_cons (ps_for PassesOwn.never rfl (pi_list (pv 0)) (pg_name (i := 3) sc_law_levels.nd rfl (Or.inl rfl))
    (pss_cons (ps_set (i := 4) sc_law_levels.nd rfl (Or.inl rfl) (pe_bm0 PySem.F.plainAttrs_list PySem.F.slot_list_pop PySem.F.type_list_pop mt_pop (pv 1)))
    (pss_cons (ps_expr (pe_bm PySem.F.plainAttrs_list PySem.F.slot_list_append PySem.F.type_list_append mt_append (pv 2) (pa_cons (pv 4) pa_nil)))
    (pss_one (ps_if (pt_cmpR op_eq (pe_ix ix_tup (pv 3) pe_int (fun _ _ => rfl)) pe_str (nomark _))
    (pss_cons (ps_expr (pe_bm PySem.F.plainAttrs_list PySem.F.slot_list_append PySem.F.type_list_append mt_append (pv 1) (pa_cons (pv 4) pa_nil)))
    (pss_one (ps_expr (pe_bm PySem.F.plainAttrs_list PySem.F.slot_list_append PySem.F.type_list_append mt_append (pv 1) (pa_cons (pv 4) pa_nil)))))
    (pss_one (ps_if (pt_cmpR op_eq (pe_ix ix_tup (pv 3) pe_int (fun _ _ => rfl)) pe_str (nomark _))
    (pss_one (ps_expr (pe_bm PySem.F.plainAttrs_list PySem.F.slot_list_append PySem.F.type_list_append mt_append (pv 1) (pa_cons (pe_op op_addI (pv 4) pe_int) pa_nil))))
    pss_nil)))))))
    (pss_one (ps_ret (pv 2)))))), ?_⟩
  rw [show start ["code", "todo", "levels", "row", "level"] [x0] = [some x0, none, none, none, none] from rfl]
  have ec0 : Str.ofString "app" = S [97,112,112] := S_ofs (by decide +kernel)
  have ec1 : Str.ofString "lam" = S [108,97,109] := S_ofs (by decide +kernel)
  rw [ec0, ec1]
  obtain ⟨p, c, rfl, hd, hok, hf1, hz, hQ⟩ := h
  try dsimp only [cxOf]
  walk_at "v"
  refine ev_lst (ds := natR [0]) (by walk_at "d") (fun st H1 hst s1 d1 => ?_)
  walk_at "v"
  refine ev_lst (ds := natI []) (by walk_at "d") (fun rs H2 hrs s2 d2 => ?_)
  walk_at "v"
  obtain ⟨xs, e0, t0⟩ := hd
  have lx : xs.length = c.length := by rw [t0.len, gd_len]
  have s02 := s1.tr s2
  have hrs0 : H rs = none := s1.fresh hrs
  have hsr : st ≠ rs := fun z => by obtain ⟨_, e⟩ := d1.lst; rw [z, hrs] at e; cases e
  refine w_lstI (SqL.of (s02 _ _ e0)) ?_
  refine for_list (xs := xs) (fun i σ H' => i ≤ c.length ∧ ∃ (todo don : List Nat) (v1 v2 : Option V), σ = [some (.ref p), some (.ref st), some (.ref rs), v1, v2] ∧ Same H H' ∧ DL H' st (natR todo) ∧ DL H' rs (natI don) ∧ don ++ lvC (c.drop i) todo = lvC c [0] ∧ fok (c.drop i) ∧ (fo (c.drop i)).length = todo.length ∧ don.length = i)
    ⟨Nat.zero_le _, [0], [], _, _, rfl, s02, d1.same s2, d2, rfl, hok, hf1, rfl⟩ (fun i σ H' _ h => by obtain ⟨_, _, _, _, _, _, h, _⟩ := h; exact SqL.of (h _ _ e0)) ?_ ?_
  · rintro i x σ H3 hx ⟨_, todo, don, v1, v2, rfl, s3, dt, dr, hlv, hfk, hln, hdl⟩
    have hi : i < c.length := by rw [← lx]; exact (List.getElem?_eq_some_iff.mp hx).1
    have ek : c[i]? = some c[i] := List.getElem?_eq_getElem hi
    obtain ⟨d, ed, td⟩ := (t0.tm (Tm.same s3)).get' hx
    have ed : d = (upR c[i]).d := by rw [gd_at ek] at ed; exact (Option.some.inj ed).symm
    subst ed
    have hlen := fo_len hok i
    generalize c[i] = r at ek td
    rw [drop_row ek] at hlv hfk hln
    have hp1 := push1_len hfk.1
    have har : r.ar ≤ (fo (c.drop (i + 1))).length := hfk.1
    have hln : (push1 r (fo (c.drop (i + 1)))).length = todo.length := hln
    obtain ⟨q, ps, rfl⟩ := one_of (show 1 ≤ todo.length by omega)
    rw [List.length_cons] at hln
    have hps : ps.length ≤ 50000 := by
      have := fo_len hok (i + 1)
      have hq := fo_len hok i
      rw [drop_row ek] at hq
      have hq : (push1 r (fo (c.drop (i + 1)))).length ≤ _ := hq
      omega
    rw [natR_cons] at dt
    obtain ⟨rest, erd⟩ := gw_d r
    have tdx : TD H3 x (.tuple (.str (S (gw r)) :: rest)) := by rw [← erd]; exact td
    dsimp only [gName]
    walk_at "v"
    refine l_ty dt ?_
    walk_at "v"
    refine l_pop dt (fun y1 H4 ty1 d4 x4 => ?_)
    rw [ty1.num]
    walk_at "v"
    obtain ⟨_, dtl⟩ := dt.lst
    have dr4 := dr.ex x4 hsr.symm dtl
    refine l_ty dr4 ?_
    walk_at "v"
    refine l_app (d := .int (q : Int)) dr4 (.int _) (fun H5 d5 x5 => ?_) (by rw [natI_len]; omega)
    have d45 := let ⟨_, e⟩ := dr4.lst; d4.ex x5 hsr e
    walk_at "v"
    have tm5 := (dt.tm_ex x4).tr (dr4.tm_ex x5)
    have tdx5 := tdx.tm tm5
    have s5 := (s3.ex hst x4).ex hrs0 x5
    rw [← natI_snoc] at d5
    have hdl5 : (don ++ [q]).length = i + 1 := by rw [List.length_append, hdl]; rfl
    refine t_ixS (n := 0) tdx5 rfl ?_
    walk_at "v"
    cases r with
    | app =>
      rw [show decide (gw .app = [97, 112, 112]) = true from (show decide (wAPP = [97, 112, 112]) = true by decide)]
      walk_at "v"
      refine l_ty d45 ?_
      walk_at "v"
      refine l_app (d := .int (q : Int)) d45 (.int _) (fun H6 d6 x6 => ?_) (by rw [natR_len]; omega)
      walk_at "v"
      refine l_ty d6 ?_
      walk_at "v"
      refine l_app (d := .int (q : Int)) d6 (.int _) (fun H7 d7 x7 => ?_) (by rw [List.length_append, natR_len]; show ps.length + 1 ≤ 100000; omega)
      walk_at "v"
      have d57 := let ⟨_, e⟩ := d6.lst; (let ⟨_, e⟩ := d45.lst; d5.ex x6 hsr.symm e).ex x7 hsr.symm e
      exact ⟨hi, q :: q :: ps, _, _, _, rfl, (s5.ex hst x6).ex hst x7, by rw [natR_cons, natR_cons]; exact d7, d57, by rw [← hlv, List.append_assoc]; rfl, hfk.2, by
        have hp1 : _ + 2 = _ := hp1
        show _ = ps.length + 1 + 1; omega, hdl5⟩
    | lam kk =>
      rw [show decide (gw (.lam kk) = [97, 112, 112]) = false from (show decide (wLAM = [97, 112, 112]) = false by decide)]
      walk_at "v"
      refine t_ixS (n := 0) tdx5 rfl ?_
      walk_at "v"
      rw [show decide (gw (.lam kk) = [108, 97, 109]) = true from (show decide (wLAM = [108, 97, 109]) = true by decide)]
      walk_at "v"
      refine l_ty d45 ?_
      walk_at "v"
      refine l_app (d := .int ((q + 1 : Nat) : Int)) d45 (.int _) (fun H6 d6 x6 => ?_) (by rw [natR_len]; omega)
      walk_at "v"
      have d56 := let ⟨_, e⟩ := d45.lst; d5.ex x6 hsr.symm e
      exact ⟨hi, (q + 1) :: ps, _, _, _, rfl, s5.ex hst x6, by rw [natR_cons]; exact d6, d56, by rw [← hlv, List.append_assoc]; rfl, hfk.2, by
        have hp1 : _ + 1 = _ := hp1
        show _ = ps.length + 1; omega, hdl5⟩
    | tip l =>
      have m12 := gw_tip l
      rw [show decide (gw (.tip l) = [97, 112, 112]) = false from decide_eq_false m12.1]
      walk_at "v"
      refine t_ixS (n := 0) tdx5 rfl ?_
      walk_at "v"
      rw [show decide (gw (.tip l) = [108, 97, 109]) = false from decide_eq_false m12.2]
      walk_at "v"
      exact ⟨hi, ps, _, _, _, rfl, s5, d45, d5, by rw [← hlv, List.append_assoc]; rfl, hfk.2, by
        have hp1 : _ + 0 = _ := hp1
        omega, hdl5⟩
  · rintro σ H3 ⟨_, todo, don, v1, v2, rfl, s3, dt, dr, hlv, hfk, hln, hdl⟩
    rw [lx, List.drop_length] at hlv
    have hlv : don = lvC c [0] := by rw [← hlv]; exact (List.append_nil _).symm
    subst hlv
    walk_at "v"
    exact hQ rs H3 hrs0 s3 dr
end
end K03

namespace K03
open PySem PySem.Spec PyProof.Rows L2 SX K02 K01
local macro_rules | `(tactic| walk_at "w1") => `(tactic| (first
  | with_reducible refine w_seq ?_ | with_reducible refine w_asgN ?_ | with_reducible refine w_c ?_
  | ((with_reducible refine' w_var ?wv ?_); (case wv => exact rfl))
  | with_reducible refine w_op ?_ | with_reducible refine w_un ?_ | with_reducible refine w_next ?_ | with_reducible refine w_brk ?_ | with_reducible refine w_cnt ?_
  | with_reducible refine w_ifS ?_ | with_reducible refine w_if ?_ | with_reducible refine w_test ?_ | with_reducible refine w_tB ?_ | with_reducible refine w_bl ?_ | with_reducible refine w_blI ?_
  | with_reducible refine w_and ?_ | with_reducible refine w_or ?_ | with_reducible refine w_not ?_ | with_reducible refine w_andV ?_ | with_reducible refine w_orV ?_ | with_reducible refine w_notV ?_
  | with_reducible refine w_nil ?_ | with_reducible refine w_cons ?_ | with_reducible refine w_cb ?_ | with_reducible refine w_call ?_ | with_reducible refine w_callS ?_ | with_reducible refine w_chain ?_
  | with_reducible refine w_tupN ?_ | with_reducible refine w_lstN ?_ | with_reducible refine w_sl ?_ | with_reducible refine w_noPart ?_ | with_reducible refine w_part ?_ | with_reducible refine w_partI ?_
  | with_reducible refine w_ret ?_ | with_reducible refine w_retN ?_ | with_reducible refine w_drop ?_ | with_reducible refine w_asg ?_ | with_reducible refine w_gSub ?_
  | ((with_reducible refine' w_aug ?wv ?_); (case wv => exact rfl)) | with_reducible refine w_ipI ?_
  | with_reducible refine w_addI ?_ | with_reducible refine w_subI ?_ | with_reducible refine w_ltI ?_ | with_reducible refine w_leI ?_ | with_reducible refine w_gtI ?_ | with_reducible refine w_geI ?_
  | with_reducible refine w_eqI ?_ | with_reducible refine w_neI ?_ | with_reducible refine w_eqT ?_ | with_reducible refine w_neT ?_ | with_reducible refine w_inS ?_ | with_reducible refine w_ninS ?_
  | with_reducible refine w_absI ?_ | with_reducible refine w_intI ?_ | with_reducible refine w_maxI ?_ | with_reducible refine w_minI ?_
  | with_reducible refine w_for ?_ | with_reducible refine w_iR1 ?_ | with_reducible refine w_iR2 ?_ | with_reducible refine w_iStr ?_ | with_reducible refine w_strI ?_ | with_reducible refine w_iList ?_ | with_reducible refine w_iTup ?_
  | with_reducible refine w_bm ?_ | with_reducible refine w_bm0 ?_ | with_reducible refine w_t ?_ | with_reducible refine w_f ?_ | with_reducible refine w_nt ?_ | with_reducible refine w_nx ?_ | with_reducible refine w_rt ?_ | with_reducible refine w_bk ?_ | with_reducible refine w_ct ?_ | with_reducible refine w_nf ?_ | with_reducible refine w_lc ?_ | with_reducible refine w_yes ?_ | with_reducible refine w_neg ?_ | with_reducible refine w_intB ?_ | with_reducible refine w_fld ?_ | with_reducible refine w_setf ?_ | with_reducible refine w_faug ?_ | with_reducible refine w_meth ?_ | with_reducible refine w_bmS ?_ | with_reducible refine w_start ?_ | with_reducible refine w_revL ?_ | with_reducible refine w_iR3 ?_))
local macro_rules | `(tactic| walk_at "w") => `(tactic| (repeat (first | walk_at "w1" | dsimp (config := { proj := false }) only [List.set_cons_zero, List.set_cons_succ])))
section
variable {w : World} [Lit] {mg : Str → Option Value} {base : Heap}
local macro_rules | `(tactic| walk_at "v1") => `(tactic| (first
  | with_reducible refine w_seq ?_ | with_reducible refine w_asgN ?_ | with_reducible refine w_c ?_
  | ((with_reducible refine' w_var ?wv ?_); (case wv => exact rfl))
  | with_reducible refine w_op ?_ | with_reducible refine w_un ?_ | with_reducible refine w_next ?_ | with_reducible refine w_brk ?_ | with_reducible refine w_cnt ?_
  | with_reducible refine w_ifS ?_ | with_reducible refine w_if ?_ | with_reducible refine w_test ?_ | with_reducible refine w_tB ?_ | with_reducible refine w_bl ?_ | with_reducible refine w_blI ?_
  | with_reducible refine w_and ?_ | with_reducible refine w_or ?_ | with_reducible refine w_not ?_ | with_reducible refine w_andV ?_ | with_reducible refine w_orV ?_ | with_reducible refine w_notV ?_
  | with_reducible refine w_nil ?_ | with_reducible refine w_cons ?_ | with_reducible refine w_cb ?_ | with_reducible refine w_call ?_ | with_reducible refine w_callS ?_ | with_reducible refine w_chain ?_
  | with_reducible refine w_sl ?_ | with_reducible refine w_noPart ?_ | with_reducible refine w_part ?_ | with_reducible refine w_partI ?_
  | with_reducible refine w_ret ?_ | with_reducible refine w_retN ?_ | with_reducible refine w_drop ?_ | with_reducible refine w_asg ?_ | with_reducible refine w_gSub ?_
  | ((with_reducible refine' w_aug ?wv ?_); (case wv => exact rfl)) | with_reducible refine w_ipI ?_
  | with_reducible refine w_addI ?_ | with_reducible refine w_subI ?_ | with_reducible refine w_ltI ?_ | with_reducible refine w_leI ?_ | with_reducible refine w_gtI ?_ | with_reducible refine w_geI ?_
  | with_reducible refine w_eqI ?_ | with_reducible refine w_neI ?_ | with_reducible refine w_eqT ?_ | with_reducible refine w_neT ?_ | with_reducible refine w_inS ?_ | with_reducible refine w_ninS ?_
  | with_reducible refine w_absI ?_ | with_reducible refine w_intI ?_ | with_reducible refine w_maxI ?_ | with_reducible refine w_minI ?_
  | with_reducible refine w_for ?_ | with_reducible refine w_iR1 ?_ | with_reducible refine w_iR2 ?_ | with_reducible refine w_iStr ?_ | with_reducible refine w_strI ?_ | with_reducible refine w_iList ?_ | with_reducible refine w_iTup ?_
  | with_reducible refine w_bm ?_ | with_reducible refine w_bm0 ?_ | with_reducible refine w_t ?_ | with_reducible refine w_f ?_ | with_reducible refine w_nt ?_ | with_reducible refine w_nx ?_ | with_reducible refine w_rt ?_ | with_reducible refine w_bk ?_ | with_reducible refine w_ct ?_ | with_reducible refine w_nf ?_ | with_reducible refine w_lc ?_ | with_reducible refine w_yes ?_ | with_reducible refine w_neg ?_ | with_reducible refine w_intB ?_ | with_reducible refine w_fld ?_ | with_reducible refine w_setf ?_ | with_reducible refine w_faug ?_ | with_reducible refine w_meth ?_ | with_reducible refine w_bmS ?_ | with_reducible refine w_start ?_ | with_reducible refine w_revL ?_ | with_reducible refine w_iR3 ?_))
local macro_rules | `(tactic| walk_at "v") => `(tactic| (repeat (first | walk_at "v1" | dsimp (config := { proj := false }) only [List.set_cons_zero, List.set_cons_succ])))
local macro_rules | `(tactic| walk_at "d") => `(tactic| (repeat (first | exact eva_nil | refine eva_cons ?_ ?_ | exact ev_str | exact ev_int | exact ev_neg | refine ev_tup ?_ | (refine ev_var rfl ?_; assumption))))


def isVr (w : List Nat) (k : Kd) : G2 → Bool
  | .tip x => isV w k x
  | _ => false
def isBr (l : Nat) : G2 → Bool
  | .tip x => isB l x
  | _ => false
theorem row_eqV (r : G2) (w : List Nat) (k : Kd) : PyData.eqv (upR r).d (Lf.var w k).d = isVr w k r := by
  cases r with
  | app => show PyData.eqv (.tuple [_]) (.tuple [_, _, _]) = false; simp [PyData.eqv, PyData.eqvAll]
  | lam j => show PyData.eqv (.tuple [_, _]) (.tuple [_, _, _]) = false; simp [PyData.eqv, PyData.eqvAll]
  | tip x =>
    cases x with
    | bnd i => show PyData.eqv (.tuple [_, _]) (.tuple [_, _, _]) = false; simp [PyData.eqv, PyData.eqvAll]
    | cst v j =>
      show PyData.eqv (.tuple [.str (S wCONST), .str (S v), j.d]) (.tuple [.str (S wVAR), .str (S w), k.d]) = false
      simp only [PyData.eqv, PyData.eqvAll, K02.S_beq]
      rw [decide_eq_false (by decide)]; simp
    | var v j =>
      show PyData.eqv (.tuple [.str (S wVAR), .str (S v), j.d]) (.tuple [.str (S wVAR), .str (S w), k.d]) = decide (v = w ∧ j = k)
      simp only [PyData.eqv, PyData.eqvAll, K02.S_beq, Kd.eqv]
      by_cases h1 : v = w <;> by_cases h2 : j = k <;> simp [h1, h2]
theorem row_eqB (r : G2) (l : Nat) : PyData.eqv (upR r).d (Lf.bnd l).d = isBr l r := by
  cases r with
  | app => show PyData.eqv (.tuple [_]) (.tuple [_, _]) = false; simp [PyData.eqv, PyData.eqvAll]
  | lam j =>
    show PyData.eqv (.tuple [.str (S wLAM), j.d]) (.tuple [.str (S wBOUND), .int (l : Int)]) = false
    simp only [PyData.eqv, PyData.eqvAll, K02.S_beq]
    rw [decide_eq_false (by decide)]; simp
  | tip x =>
    cases x with
    | cst v j => show PyData.eqv (.tuple [_, _, _]) (.tuple [_, _]) = false; simp [PyData.eqv, PyData.eqvAll]
    | var v j => show PyData.eqv (.tuple [_, _, _]) (.tuple [_, _]) = false; simp [PyData.eqv, PyData.eqvAll]
    | bnd i =>
      show PyData.eqv (.tuple [.str (S wBOUND), .int (i : Int)]) (.tuple [.str (S wBOUND), .int (l : Int)]) = decide (i = l)
      simp only [PyData.eqv, PyData.eqvAll, K02.S_beq]
      by_cases h : i = l
      · subst h; simp
      · have : ¬ ((i : Int) = (l : Int)) := by omega
        simp [h, this]
theorem cokVar : Cok wVAR := by show ∀ c ∈ wVAR, c < 256; decide
theorem cokConst : Cok wCONST := by show ∀ c ∈ wCONST, c < 256; decide
theorem cokBound : Cok wBOUND := by show ∀ c ∈ wBOUND, c < 256; decide
theorem cokApp : Cok wAPP := by show ∀ c ∈ wAPP, c < 256; decide
theorem cokLam : Cok wLAM := by show ∀ c ∈ wLAM, c < 256; decide
theorem sz_leaf {l : Lf} (h : l.ok) : Sz 180 l.d := by
  have lg : ∀ w ∈ LOGIC, ∀ c ∈ w, c < 256 := by decide
  cases l with
  | var w k =>
    have := h.2.2; have h3 := k.ht_sz
    refine ⟨by simp only [Lf.d, PyData.canLay0, PyData.canLayAll0, strOk_S cokVar, strOk_S (name_cok h.1).1, k.lay h.2.1, Bool.and_self], ?_⟩
    simp only [Lf.d, PyData.depth, PyData.depthAll, Kd.depth]; omega
  | cst w k =>
    have := h.2.2; have h3 := k.ht_sz
    have hc : Cok w := h.1.elim (fun z => (name_cok z).1) (fun z => lg w z)
    refine ⟨by simp only [Lf.d, PyData.canLay0, PyData.canLayAll0, strOk_S cokConst, strOk_S hc, k.lay h.2.1, Bool.and_self], ?_⟩
    simp only [Lf.d, PyData.depth, PyData.depthAll, Kd.depth]; omega
  | bnd i =>
    refine ⟨by simp only [Lf.d, PyData.canLay0, PyData.canLayAll0, strOk_S cokBound, Bool.and_self], ?_⟩
    simp only [Lf.d, PyData.depth, PyData.depthAll]; omega
theorem sz_row {r : G2} (h : r.gok) : Sz 180 (upR r).d := by
  cases r with
  | app =>
    show Sz 180 (.tuple [.str (S wAPP)])
    refine ⟨by simp only [PyData.canLay0, PyData.canLayAll0, strOk_S cokApp, Bool.and_self], ?_⟩
    simp only [PyData.depth, PyData.depthAll]; omega
  | lam k =>
    show Sz 180 (.tuple [.str (S wLAM), k.d])
    have := h.2; have h3 := k.ht_sz
    refine ⟨by simp only [PyData.canLay0, PyData.canLayAll0, strOk_S cokLam, k.lay h.1, Bool.and_self], ?_⟩
    simp only [PyData.depth, PyData.depthAll, Kd.depth]; omega
  | tip l => exact sz_leaf h
/-- the rows done so far -/
def doneS (f : Nat → Lf → List G2) (c : List G2) (i : Nat) : List G2 := ((List.zipWith (rowS f) c (lvC c [0])).take i).flatten
theorem doneS_zero (f : Nat → Lf → List G2) (c : List G2) : doneS f c 0 = [] := rfl
theorem doneS_all (f : Nat → Lf → List G2) (c : List G2) : doneS f c c.length = subC f c [0] := by
  rw [subC_rows]
  unfold doneS
  rw [List.take_of_length_le]
  rw [List.length_zipWith, lvC_len]; omega
theorem doneS_succ {f : Nat → Lf → List G2} {c : List G2} {i : Nat} {r : G2} {l : Nat} (e : c[i]? = some r) (h : (lvC c [0])[i]? = some l) : doneS f c (i + 1) = doneS f c i ++ rowS f r l := by
  unfold doneS
  have hz : (List.zipWith (rowS f) c (lvC c [0]))[i]? = some (rowS f r l) := by rw [List.getElem?_zipWith, e, h]
  rw [List.take_add_one, hz, List.flatten_append]
  simp
theorem lv_at {c : List G2} {i : Nat} (hi : i < c.length) : ∃ l, (lvC c [0])[i]? = some l ∧ (natI (lvC c [0]))[i]? = some (.int (l : Int)) := by
  have h : i < (lvC c [0]).length := by rw [lvC_len]; exact hi
  exact ⟨_, List.getElem?_eq_getElem h, by unfold natI; rw [List.getElem?_map, List.getElem?_eq_getElem h]; rfl⟩
theorem doneS_len {f : Nat → Lf → List G2} {m : Nat} (hf : ∀ r l, (rowS f r l).length ≤ m) (c : List G2) : ∀ i, (doneS f c i).length ≤ i * m
  | 0 => by rw [doneS_zero]; exact Nat.zero_le _
  | i + 1 => by
    have ih := doneS_len hf c i
    by_cases hi : i < c.length
    · obtain ⟨l, h1, _⟩ := lv_at hi
      rw [doneS_succ (List.getElem?_eq_getElem hi) h1, List.length_append, Nat.succ_mul]
      have := hf c[i] l
      omega
    · have : doneS f c (i + 1) = doneS f c i := by
        unfold doneS
        have h : (List.zipWith (rowS f) c (lvC c [0])).length ≤ i := by rw [List.length_zipWith, lvC_len]; omega
        rw [List.take_of_length_le h, List.take_of_length_le (by omega)]
      rw [this, Nat.succ_mul]; omega
theorem row_isV {w : List Nat} {k : Kd} {r : G2} (h : isVr w k r = true) (l : Nat) : rowS (absC w k) r l = [.tip (.bnd l)] := by
  cases r with
  | app => cases h
  | lam j => cases h
  | tip x => show absC w k l x = _; unfold absC; rw [if_pos (show isV w k x = true from h)]
theorem row_notV {w : List Nat} {k : Kd} {r : G2} (h : isVr w k r = false) (l : Nat) : rowS (absC w k) r l = [r] := by
  cases r with
  | app => rfl
  | lam j => rfl
  | tip x => show absC w k l x = _; unfold absC; rw [if_neg (by rw [show isV w k x = false from h]; decide)]
theorem row_isB {v : List G2} {r : G2} {l : Nat} (h : isBr l r = true) : rowS (insC v) r l = v := by
  cases r with
  | app => cases h
  | lam j => cases h
  | tip x => show insC v l x = _; unfold insC; rw [if_pos (show isB l x = true from h)]
theorem row_notB {v : List G2} {r : G2} {l : Nat} (h : isBr l r = false) : rowS (insC v) r l = [r] := by
  cases r with
  | app => rfl
  | lam j => rfl
  | tip x => show insC v l x = _; unfold insC; rw [if_neg (by rw [show isB l x = false from h]; decide)]
def sp_law_abstracted : Sp := sp3 fun x y z H Q _ => ∃ (p : Addr) (c : List G2) (w : List Nat) (k : Kd), x = .ref p ∧ y = .str (S w) ∧ DL H p (gd c) ∧ TD H z k.d ∧ fok c ∧ (fo c).length = 1 ∧ c.length ≤ 5000 ∧ (∀ r ∈ c, r.gok) ∧ isName w = true ∧ GK k ∧
  ∀ q H', H q = none → Same H H' → DL H' q (gd (subC (absC w k) c [0])) → Q (.ref q) H'
theorem ok_law_abstracted (T : Txt w K mg) {fd : FuncData} (F : Fn_law_abstracted K fd) (hm : mg "_law_abstracted" = some (.ref (He.ga K "_law_abstracted"))) (c_law_levels : CalX P w K mg base CX0 1 "_law_levels" sp_law_levels) : CalX P w K mg base CX0 2 "_law_abstracted" sp_law_abstracted := by
  refine calx0 (k := 1) F hm sc_law_abstracted (b_law_abstracted F) (fun _ _ _ _ h => sp3_len h) (fun cdv A outer s H vs Q E hr h => ?_)
  obtain ⟨x0, x1, x2, rfl, h⟩ := h
  refine ⟨_, (pss_cons (ps_set (i := 3) sc_law_abstracted.nd rfl (Or.inl rfl) (pe_cx c_law_levels hr (by decide) rfl pass0 (pa_cons (pv 0) pa_nil)))
    (pss_cons (ps_set (i := 4) sc_law_abstracted.nd rfl (Or.inl rfl) (pe_lst pa_nil))
    (pss_cons (ps_for PassesOwn.never rfl (pi_range1 (by rfl) T.f_range (pa_cons (pe_callB call_lenQ (by rfl) T.f_len PySem.boot_len (pa_cons (pv 0) pa_nil)) pa_nil)) (pg_name (i := 5) sc_law_abstracted.nd rfl (Or.inl rfl))
    (pss_one (ps_if (pt_cmpR (op_eqN hr) (pe_ix ix_list (pv 0) (pv 5) (fun _ _ => rfl)) (pe_tup (pa_cons pe_str (pa_cons (pv 1) (pa_cons (pv 2) pa_nil)))) (nomark _))
    (pss_one (ps_expr (pe_bm PySem.F.plainAttrs_list PySem.F.slot_list_append PySem.F.type_list_append mt_append (pv 4) (pa_cons (pe_tup (pa_cons pe_str (pa_cons (pe_ix ix_list (pv 3) (pv 5) (fun _ _ => rfl)) pa_nil))) pa_nil))))
    (pss_one (ps_expr (pe_bm PySem.F.plainAttrs_list PySem.F.slot_list_append PySem.F.type_list_append mt_append (pv 4) (pa_cons (pe_ix ix_list (pv 0) (pv 5) (fun _ _ => rfl)) pa_nil)))))))
    (pss_one (ps_ret (pv 4)))))), ?_⟩
  rw [show start ["code", "word", "kind", "levels", "made", "k"] [x0, x1, x2] = [some x0, some x1, some x2, none, none, none] from rfl]
  have ec0 : Str.ofString "var" = S [118,97,114] := S_ofs (by decide +kernel)
  have ec1 : Str.ofString "bound" = S [98,111,117,110,100] := S_ofs (by decide +kernel)
  rw [ec0, ec1]
  obtain ⟨p, c, w, k, rfl, rfl, hd, hk, hok, hf1, hz, hg, hw, hgk, hQ⟩ := h
  try dsimp only [cxOf]
  walk_at "v"
  refine ⟨_, rfl, p, c, rfl, hd, hok, hf1, by omega, fun lq H1 h1 s1 dl => ?_⟩
  walk_at "v"
  refine ev_lst (ds := gd []) (by walk_at "d") (fun mq H2 h2 s2 dm => ?_)
  walk_at "v"
  have s02 := s1.tr s2
  have hm0 : H mq = none := s1.fresh h2
  refine l_len (hd.same s02) ?_
  rw [gd_len]
  walk_at "v"
  refine w_rg1 (by omega) (by omega) ?_
  have hone : ∀ r l, (rowS (absC w k) r l).length ≤ 1 := fun r l => by
    cases hv : isVr w k r
    · rw [row_notV hv]; exact Nat.le_refl _
    · rw [row_isV hv]; exact Nat.le_refl _
  have hpm : p ≠ mq := fun z => by obtain ⟨_, e⟩ := hd.lst; rw [z, hm0] at e; cases e
  have hlm : lq ≠ mq := fun z => by obtain ⟨_, e⟩ := dl.lst; rw [z, h2] at e; cases e
  refine for_range (fun i σ H' => ∃ (v5 : Option V), σ = [some (.ref p), some (.str (S w)), some x2, some (.ref lq), some (.ref mq), v5] ∧ Same H H' ∧ DL H' lq (natI (lvC c [0])) ∧ DL H' mq (gd (doneS (absC w k) c i)))
    ⟨_, rfl, s02, dl.same s2, dm⟩ ?_ ?_
  · rintro i σ G hi ⟨v5, rfl, s, dlg, dmg⟩
    have hi : i < c.length := by omega
    have ei := List.getElem?_eq_getElem hi
    have gi := hg _ (List.getElem_mem hi)
    generalize c[i] = r at ei gi
    obtain ⟨l, el, edl⟩ := lv_at hi
    have hml := doneS_len hone c i
    dsimp only [gName]
    walk_at "v"
    rw [show (0 : Int) + (i : Int) = (i : Int) by omega]
    refine l_ix (hd.same s) (gd_at ei) (fun x tx => ?_)
    walk_at "v"
    have kG := hk.tm (Tm.same s)
    refine ev_go (d := (Lf.var w k).d) (ev_tup (eva_cons ev_str (eva_cons (ev_var rfl (.str _)) (eva_cons (ev_var rfl kG) eva_nil)))) (fun y H3 s3 ty => ?_)
    walk_at "v"
    refine d_eq (tx.tm (Tm.same s3)) ty (sz_row gi) (sz_leaf (l := .var w k) ⟨hw, hgk⟩) ?_
    rw [row_eqV]
    walk_at "v"
    have sG := s.tr s3
    refine w_b (fun hv => ?_) (fun hv => ?_)
    · walk_at "v"
      refine l_ty (dmg.same s3) ?_
      walk_at "v"
      refine w_tupN ?_
      walk_at "v"
      refine l_ix (dlg.same s3) edl (fun x tx => ?_)
      rw [tx.num]
      walk_at "v"
      refine t_new (ds := [.str (S wBOUND), .int (l : Int)]) (.cons (.str _) (.cons (.int _) .nil)) (fun p4 H4 hp4 s4 t4 => ?_)
      walk_at "v"
      refine l_app ((dmg.same s3).same s4) t4 (fun H5 d5 x5 => ?_) (by rw [gd_len]; omega)
      walk_at "v"
      refine ⟨_, rfl, (sG.tr s4).ex hm0 x5, let ⟨_, e⟩ := ((dmg.same s3).same s4).lst; ((dlg.same s3).same s4).ex x5 hlm e, ?_⟩
      rw [doneS_succ ei el, row_isV hv, gd_app]; exact d5
    · walk_at "v"
      refine l_ty (dmg.same s3) ?_
      walk_at "v"
      refine l_ix (hd.same sG) (gd_at ei) (fun x tx => ?_)
      walk_at "v"
      refine l_app (dmg.same s3) tx (fun H5 d5 x5 => ?_) (by rw [gd_len]; omega)
      walk_at "v"
      refine ⟨_, rfl, sG.ex hm0 x5, let ⟨_, e⟩ := (dmg.same s3).lst; (dlg.same s3).ex x5 hlm e, ?_⟩
      rw [doneS_succ ei el, row_notV hv, gd_app]; exact d5
  · rintro σ G ⟨v5, rfl, s, dlg, dmg⟩
    walk_at "v"
    rw [show ((c.length : Int)).toNat = c.length from Int.toNat_natCast _, doneS_all] at dmg
    exact hQ mq G hm0 s dmg

end
end K03

namespace K03
open PySem PySem.Spec PyProof.Rows L2 SX K02 K01
local macro_rules | `(tactic| walk_at "w1") => `(tactic| (first
  | with_reducible refine w_seq ?_ | with_reducible refine w_asgN ?_ | with_reducible refine w_c ?_
  | ((with_reducible refine' w_var ?wv ?_); (case wv => exact rfl))
  | with_reducible refine w_op ?_ | with_reducible refine w_un ?_ | with_reducible refine w_next ?_ | with_reducible refine w_brk ?_ | with_reducible refine w_cnt ?_
  | with_reducible refine w_ifS ?_ | with_reducible refine w_if ?_ | with_reducible refine w_test ?_ | with_reducible refine w_tB ?_ | with_reducible refine w_bl ?_ | with_reducible refine w_blI ?_
  | with_reducible refine w_and ?_ | with_reducible refine w_or ?_ | with_reducible refine w_not ?_ | with_reducible refine w_andV ?_ | with_reducible refine w_orV ?_ | with_reducible refine w_notV ?_
  | with_reducible refine w_nil ?_ | with_reducible refine w_cons ?_ | with_reducible refine w_cb ?_ | with_reducible refine w_call ?_ | with_reducible refine w_callS ?_ | with_reducible refine w_chain ?_
  | with_reducible refine w_tupN ?_ | with_reducible refine w_lstN ?_ | with_reducible refine w_sl ?_ | with_reducible refine w_noPart ?_ | with_reducible refine w_part ?_ | with_reducible refine w_partI ?_
  | with_reducible refine w_ret ?_ | with_reducible refine w_retN ?_ | with_reducible refine w_drop ?_ | with_reducible refine w_asg ?_ | with_reducible refine w_gSub ?_
  | ((with_reducible refine' w_aug ?wv ?_); (case wv => exact rfl)) | with_reducible refine w_ipI ?_
  | with_reducible refine w_addI ?_ | with_reducible refine w_subI ?_ | with_reducible refine w_ltI ?_ | with_reducible refine w_leI ?_ | with_reducible refine w_gtI ?_ | with_reducible refine w_geI ?_
  | with_reducible refine w_eqI ?_ | with_reducible refine w_neI ?_ | with_reducible refine w_eqT ?_ | with_reducible refine w_neT ?_ | with_reducible refine w_inS ?_ | with_reducible refine w_ninS ?_
  | with_reducible refine w_absI ?_ | with_reducible refine w_intI ?_ | with_reducible refine w_maxI ?_ | with_reducible refine w_minI ?_
  | with_reducible refine w_for ?_ | with_reducible refine w_iR1 ?_ | with_reducible refine w_iR2 ?_ | with_reducible refine w_iStr ?_ | with_reducible refine w_strI ?_ | with_reducible refine w_iList ?_ | with_reducible refine w_iTup ?_
  | with_reducible refine w_bm ?_ | with_reducible refine w_bm0 ?_ | with_reducible refine w_t ?_ | with_reducible refine w_f ?_ | with_reducible refine w_nt ?_ | with_reducible refine w_nx ?_ | with_reducible refine w_rt ?_ | with_reducible refine w_bk ?_ | with_reducible refine w_ct ?_ | with_reducible refine w_nf ?_ | with_reducible refine w_lc ?_ | with_reducible refine w_yes ?_ | with_reducible refine w_neg ?_ | with_reducible refine w_intB ?_ | with_reducible refine w_fld ?_ | with_reducible refine w_setf ?_ | with_reducible refine w_faug ?_ | with_reducible refine w_meth ?_ | with_reducible refine w_bmS ?_ | with_reducible refine w_start ?_ | with_reducible refine w_revL ?_ | with_reducible refine w_iR3 ?_))
local macro_rules | `(tactic| walk_at "w") => `(tactic| (repeat (first | walk_at "w1" | dsimp (config := { proj := false }) only [List.set_cons_zero, List.set_cons_succ])))
section
variable {w : World} [Lit] {mg : Str → Option Value} {base : Heap}
local macro_rules | `(tactic| walk_at "v1") => `(tactic| (first
  | with_reducible refine w_seq ?_ | with_reducible refine w_asgN ?_ | with_reducible refine w_c ?_
  | ((with_reducible refine' w_var ?wv ?_); (case wv => exact rfl))
  | with_reducible refine w_op ?_ | with_reducible refine w_un ?_ | with_reducible refine w_next ?_ | with_reducible refine w_brk ?_ | with_reducible refine w_cnt ?_
  | with_reducible refine w_ifS ?_ | with_reducible refine w_if ?_ | with_reducible refine w_test ?_ | with_reducible refine w_tB ?_ | with_reducible refine w_bl ?_ | with_reducible refine w_blI ?_
  | with_reducible refine w_and ?_ | with_reducible refine w_or ?_ | with_reducible refine w_not ?_ | with_reducible refine w_andV ?_ | with_reducible refine w_orV ?_ | with_reducible refine w_notV ?_
  | with_reducible refine w_nil ?_ | with_reducible refine w_cons ?_ | with_reducible refine w_cb ?_ | with_reducible refine w_call ?_ | with_reducible refine w_callS ?_ | with_reducible refine w_chain ?_
  | with_reducible refine w_sl ?_ | with_reducible refine w_noPart ?_ | with_reducible refine w_part ?_ | with_reducible refine w_partI ?_
  | with_reducible refine w_ret ?_ | with_reducible refine w_retN ?_ | with_reducible refine w_drop ?_ | with_reducible refine w_asg ?_ | with_reducible refine w_gSub ?_
  | ((with_reducible refine' w_aug ?wv ?_); (case wv => exact rfl)) | with_reducible refine w_ipI ?_
  | with_reducible refine w_addI ?_ | with_reducible refine w_subI ?_ | with_reducible refine w_ltI ?_ | with_reducible refine w_leI ?_ | with_reducible refine w_gtI ?_ | with_reducible refine w_geI ?_
  | with_reducible refine w_eqI ?_ | with_reducible refine w_neI ?_ | with_reducible refine w_eqT ?_ | with_reducible refine w_neT ?_ | with_reducible refine w_inS ?_ | with_reducible refine w_ninS ?_
  | with_reducible refine w_absI ?_ | with_reducible refine w_intI ?_ | with_reducible refine w_maxI ?_ | with_reducible refine w_minI ?_
  | with_reducible refine w_for ?_ | with_reducible refine w_iR1 ?_ | with_reducible refine w_iR2 ?_ | with_reducible refine w_iStr ?_ | with_reducible refine w_strI ?_ | with_reducible refine w_iList ?_ | with_reducible refine w_iTup ?_
  | with_reducible refine w_bm ?_ | with_reducible refine w_bm0 ?_ | with_reducible refine w_t ?_ | with_reducible refine w_f ?_ | with_reducible refine w_nt ?_ | with_reducible refine w_nx ?_ | with_reducible refine w_rt ?_ | with_reducible refine w_bk ?_ | with_reducible refine w_ct ?_ | with_reducible refine w_nf ?_ | with_reducible refine w_lc ?_ | with_reducible refine w_yes ?_ | with_reducible refine w_neg ?_ | with_reducible refine w_intB ?_ | with_reducible refine w_fld ?_ | with_reducible refine w_setf ?_ | with_reducible refine w_faug ?_ | with_reducible refine w_meth ?_ | with_reducible refine w_bmS ?_ | with_reducible refine w_start ?_ | with_reducible refine w_revL ?_ | with_reducible refine w_iR3 ?_))
local macro_rules | `(tactic| walk_at "v") => `(tactic| (repeat (first | walk_at "v1" | dsimp (config := { proj := false }) only [List.set_cons_zero, List.set_cons_succ])))
local macro_rules | `(tactic| walk_at "d") => `(tactic| (repeat (first | exact eva_nil | refine eva_cons ?_ ?_ | exact ev_str | exact ev_int | exact ev_neg | refine ev_tup ?_ | (refine ev_var rfl ?_; assumption))))


theorem ht_half : ∀ k : Kd, 2 * k.ht ≤ k.sz + 1
  | .nm _ => Nat.le_refl _
  | .fr _ => Nat.le_refl _
  | .to a b => by
    have := ht_half a; have := ht_half b; have := a.sz_pos; have := b.sz_pos
    show 2 * (max a.ht b.ht + 1) ≤ a.sz + b.sz + 1 + 1
    omega
theorem gk_ht {k : Kd} (h : GK k) : k.ht ≤ 50 := by have := ht_half k; have := h.2; omega
theorem leaf_depth {l : Lf} (h : l.ok) : l.d.depth ≤ 51 := by
  cases l with
  | var w k => have := gk_ht h.2; simp only [Lf.d, PyData.depth, PyData.depthAll, Kd.depth]; omega
  | cst w k => have := gk_ht h.2; simp only [Lf.d, PyData.depth, PyData.depthAll, Kd.depth]; omega
  | bnd i => simp only [Lf.d, PyData.depth, PyData.depthAll]; omega
theorem tree_lay : ∀ {g : Gt}, g.gok → (upT g).d.canLay0 = true ∧ (upT g).d.depth ≤ g.dep + 50
  | .app f a, h => by
    obtain ⟨f1, f2⟩ := tree_lay h.1
    obtain ⟨a1, a2⟩ := tree_lay h.2
    show (PyData.tuple [.str (S wAPP), (upT f).d, (upT a).d]).canLay0 = true ∧ (PyData.tuple [.str (S wAPP), (upT f).d, (upT a).d]).depth ≤ max f.dep a.dep + 1 + 50
    refine ⟨by simp only [PyData.canLay0, PyData.canLayAll0, strOk_S cokApp, f1, a1, Bool.and_self], ?_⟩
    simp only [PyData.depth, PyData.depthAll]; omega
  | .lam k b, h => by
    obtain ⟨b1, b2⟩ := tree_lay h.2
    have := gk_ht h.1
    show (PyData.tuple [.str (S wLAM), k.d, (upT b).d]).canLay0 = true ∧ (PyData.tuple [.str (S wLAM), k.d, (upT b).d]).depth ≤ b.dep + 1 + 50
    refine ⟨by simp only [PyData.canLay0, PyData.canLayAll0, strOk_S cokLam, b1, k.lay h.1.1, Bool.and_self], ?_⟩
    simp only [PyData.depth, PyData.depthAll, Kd.depth]; omega
  | .tip l, h => ⟨(sz_leaf h).1, by have := leaf_depth h; show l.d.depth ≤ 1 + 50; omega⟩
theorem sz_tree {g : Gt} (h : g.gok) (z : g.dep ≤ 130) : Sz 180 (upT g).d := ⟨(tree_lay h).1, by have := (tree_lay h).2; omega⟩
def isVt (w : List Nat) (k : Kd) : Gt → Bool
  | .tip x => isV w k x
  | _ => false
theorem tree_eqV (g : Gt) (w : List Nat) (k : Kd) : PyData.eqv (upT g).d (Lf.var w k).d = isVt w k g := by
  cases g with
  | tip x => exact row_eqV (.tip x) w k
  | app f a =>
    show PyData.eqv (.tuple [.str (S wAPP), (upT f).d, (upT a).d]) (.tuple [.str (S wVAR), .str (S w), k.d]) = false
    simp only [PyData.eqv, PyData.eqvAll, K02.S_beq]
    rw [decide_eq_false (by decide)]; simp
  | lam j b =>
    show PyData.eqv (.tuple [.str (S wLAM), j.d, (upT b).d]) (.tuple [.str (S wVAR), .str (S w), k.d]) = false
    simp only [PyData.eqv, PyData.eqvAll, K02.S_beq]
    rw [decide_eq_false (by decide)]; simp
def sp_abs (n : Nat) : Sp := sp3 fun x y z H Q _ => ∃ (g : Gt) (w : List Nat) (k : Kd) (l : Nat), TD H x (upT g).d ∧ TD H y (Lf.var w k).d ∧ z = .int (l : Int) ∧ g.gok ∧ g.dep ≤ n ∧ n ≤ 130 ∧ isName w = true ∧ GK k ∧
  ∀ v H', Same H H' → TD H' v (upT (subT (absL w k) g l)).d → Q v H'
theorem abs_step (T : Txt w K mg) {fd : FuncData} (F : Fn_abstracted K fd) (hm : mg "_abstracted" = some (.ref (He.ga K "_abstracted"))) (n : Nat) (c_abstracted : CalX P w K mg base CX0 (n + 1) "_abstracted" (sp_abs n)) : CalX P w K mg base CX0 (n + 2) "_abstracted" (sp_abs (n + 1)) := by
  refine calx0 (k := n + 1) F hm sc_abstracted (b_abstracted F) (fun _ _ _ _ h => sp3_len h) (fun cdv A outer s H vs Q E hr h => ?_)
  obtain ⟨x0, x1, x2, rfl, h⟩ := h
  refine ⟨_, (pss_cons (ps_if (pt_cmpR (op_eqN hr) (pv 0) (pv 1) (nomark _))
    (pss_one (ps_ret (pe_tup (pa_cons pe_str (pa_cons (pv 2) pa_nil)))))
    pss_nil)
    (pss_cons (ps_if (pt_cmpR op_eq (pe_ix ix_tup (pv 0) pe_int (fun _ _ => rfl)) pe_str (nomark _))
    (pss_one (ps_ret (pe_tup (pa_cons pe_str (pa_cons (pe_cx c_abstracted hr (Nat.le_refl _) rfl pass0 (pa_cons (pe_ix ix_tup (pv 0) pe_int (fun _ _ => rfl)) (pa_cons (pv 1) (pa_cons (pv 2) pa_nil)))) (pa_cons (pe_cx c_abstracted hr (Nat.le_refl _) rfl pass0 (pa_cons (pe_ix ix_tup (pv 0) pe_int (fun _ _ => rfl)) (pa_cons (pv 1) (pa_cons (pv 2) pa_nil)))) pa_nil))))))
    pss_nil)
    (pss_cons (ps_if (pt_cmpR op_eq (pe_ix ix_tup (pv 0) pe_int (fun _ _ => rfl)) pe_str (nomark _))
    (pss_one (ps_ret (pe_tup (pa_cons pe_str (pa_cons (pe_ix ix_tup (pv 0) pe_int (fun _ _ => rfl)) (pa_cons (pe_cx c_abstracted hr (Nat.le_refl _) rfl pass0 (pa_cons (pe_ix ix_tup (pv 0) pe_int (fun _ _ => rfl)) (pa_cons (pv 1) (pa_cons (pe_op op_addI (pv 2) pe_int) pa_nil)))) pa_nil))))))
    pss_nil)
    (pss_one (ps_ret (pv 0)))))), ?_⟩
  rw [show start ["part", "variable", "level"] [x0, x1, x2] = [some x0, some x1, some x2] from rfl]
  have ec0 : Str.ofString "app" = S [97,112,112] := S_ofs (by decide +kernel)
  have ec1 : Str.ofString "lam" = S [108,97,109] := S_ofs (by decide +kernel)
  have ec2 : Str.ofString "bound" = S [98,111,117,110,100] := S_ofs (by decide +kernel)
  rw [ec0, ec1, ec2]
  obtain ⟨g, w, k, l, hx, hy, rfl, hg, hn, hn2, hw, hk, hQ⟩ := h
  try dsimp only [cxOf]
  walk_at "v"
  refine d_eq hx hy (sz_tree hg (by omega)) (sz_leaf (l := .var w k) ⟨hw, hk⟩) ?_
  rw [tree_eqV]
  cases g with
  | app f a =>
    have hx : TD H x0 (.tuple [.str (S wAPP), (upT f).d, (upT a).d]) := hx
    have hdp : max f.dep a.dep + 1 ≤ n + 1 := hn
    rw [show isVt w k _ = false from rfl]
    walk_at "v"
    refine t_ixS (n := 0) hx rfl ?_
    walk_at "v"
    rw [show decide (wAPP = [97, 112, 112]) = true from by decide]
    walk_at "v"
    refine w_tupN ?_
    walk_at "v"
    refine t_ix (n := 1) hx rfl (fun y1 ty1 => ?_)
    walk_at "v"
    refine ⟨_, _, _, rfl, f, w, k, l, ty1, hy, rfl, hg.1, by omega, by omega, hw, hk, fun v1 H1 s1 t1 => ?_⟩
    walk_at "v"
    refine t_ix (n := 2) (hx.tm (Tm.same s1)) rfl (fun y2 ty2 => ?_)
    walk_at "v"
    refine ⟨_, _, _, rfl, a, w, k, l, ty2, hy.tm (Tm.same s1), rfl, hg.2, by omega, by omega, hw, hk, fun v2 H2 s2 t2 => ?_⟩
    walk_at "v"
    refine t_new (ds := [.str (S wAPP), (upT (subT (absL w k) f l)).d, (upT (subT (absL w k) a l)).d]) (.cons (.str _) (.cons (t1.tm (Tm.same s2)) (.cons t2 .nil))) (fun p3 H3 hp3 s3 t3 => ?_)
    exact hQ _ H3 ((s1.tr s2).tr s3) t3
  | lam j b =>
    have hx : TD H x0 (.tuple [.str (S wLAM), j.d, (upT b).d]) := hx
    have hdp : b.dep + 1 ≤ n + 1 := hn
    rw [show isVt w k _ = false from rfl]
    walk_at "v"
    refine t_ixS (n := 0) hx rfl ?_
    walk_at "v"
    rw [show decide (wLAM = [97, 112, 112]) = false from by decide]
    walk_at "v"
    refine t_ixS (n := 0) hx rfl ?_
    walk_at "v"
    rw [show decide (wLAM = [108, 97, 109]) = true from by decide]
    walk_at "v"
    refine w_tupN ?_
    walk_at "v"
    refine t_ix (n := 1) hx rfl (fun y1 ty1 => ?_)
    walk_at "v"
    refine t_ix (n := 2) hx rfl (fun y2 ty2 => ?_)
    walk_at "v"
    rw [show ((l : Int) + 1) = ((l + 1 : Nat) : Int) by omega]
    refine ⟨_, _, _, rfl, b, w, k, l + 1, ty2, hy, rfl, hg.2, by omega, by omega, hw, hk, fun v1 H1 s1 t1 => ?_⟩
    walk_at "v"
    refine t_new (ds := [.str (S wLAM), j.d, (upT (subT (absL w k) b (l + 1))).d]) (.cons (.str _) (.cons (ty1.tm (Tm.same s1)) (.cons t1 .nil))) (fun p3 H3 hp3 s3 t3 => ?_)
    exact hQ _ H3 (s1.tr s3) t3
  | tip x =>
    rw [show isVt w k (.tip x) = isV w k x from rfl]
    walk_at "v"
    refine w_b (fun hv => ?_) (fun hv => ?_)
    · walk_at "v"
      refine ev_go (d := (Lf.bnd l).d) (ev_tup (eva_cons ev_str (eva_cons (ev_var rfl (.int _)) eva_nil))) (fun v H1 s1 t1 => hQ v H1 s1 ?_)
      show TD H1 v (upT (absL w k l x)).d
      unfold absL
      rw [if_pos hv]; exact t1
    · walk_at "v"
      obtain ⟨rest, ed⟩ := gw_d (.tip x)
      have m12 := gw_tip x
      have hx' : TD H x0 (.tuple (.str (S (gw (.tip x))) :: rest)) := by rw [← ed]; exact hx
      refine t_ixS (n := 0) hx' rfl ?_
      walk_at "v"
      rw [show decide (gw (.tip x) = [97, 112, 112]) = false from decide_eq_false m12.1]
      walk_at "v"
      refine t_ixS (n := 0) hx' rfl ?_
      walk_at "v"
      rw [show decide (gw (.tip x) = [108, 97, 109]) = false from decide_eq_false m12.2]
      walk_at "v"
      refine hQ x0 H (Same.refl' H) ?_
      show TD H x0 (upT (absL w k l x)).d
      unfold absL
      rw [if_neg (by rw [hv]; decide)]; exact hx

theorem abs_all (T : Txt w K mg) {fd : FuncData} (F : Fn_abstracted K fd) (hm : mg "_abstracted" = some (.ref (He.ga K "_abstracted"))) : ∀ n, CalX P w K mg base CX0 (n + 1) "_abstracted" (sp_abs n)
  | 0 => calx0 (k := 0) F hm sc_abstracted (b_abstracted F) (fun _ _ _ _ h => sp3_len h) (fun cdv A outer s H vs Q E hr h => by
      obtain ⟨x0, x1, x2, rfl, g, _, _, _, _, _, _, _, hn, _⟩ := h
      have := g.dep_pos
      omega)
  | n + 1 => abs_step T F hm n (abs_all T F hm n)
def sp_abstract : Sp := sp3 fun x y z H Q _ => ∃ (g : Gt) (w : List Nat) (k : Kd), TD H x (upT g).d ∧ y = .str (S w) ∧ TD H z k.d ∧ g.gok ∧ g.dep ≤ 130 ∧ isName w = true ∧ GK k ∧
  ∀ v H', Same H H' → TD H' v (upT (subT (absL w k) g 0)).d → Q v H'
theorem ok_abstract (T : Txt w K mg) {fd : FuncData} (F : Fn_abstract K fd) (hm : mg "abstract" = some (.ref (He.ga K "abstract"))) (c_abstracted : CalX P w K mg base CX0 131 "_abstracted" (sp_abs 130)) : CalX P w K mg base CX0 132 "abstract" sp_abstract := by
  refine calx0 (k := 131) F hm sc_abstract (b_abstract F) (fun _ _ _ _ h => sp3_len h) (fun cdv A outer s H vs Q E hr h => ?_)
  obtain ⟨x0, x1, x2, rfl, h⟩ := h
  refine ⟨_, (pss_one (ps_ret (pe_cx c_abstracted hr (by decide) rfl pass0 (pa_cons (pv 0) (pa_cons (pe_tup (pa_cons pe_str (pa_cons (pv 1) (pa_cons (pv 2) pa_nil)))) (pa_cons pe_int pa_nil)))))), ?_⟩
  rw [show start ["term", "name", "kind"] [x0, x1, x2] = [some x0, some x1, some x2] from rfl]
  have ec0 : Str.ofString "var" = S [118,97,114] := S_ofs (by decide +kernel)
  rw [ec0]
  obtain ⟨g, w, k, hx, rfl, hz, hg, hn, hw, hk, hQ⟩ := h
  try dsimp only [cxOf]
  walk_at "v"
  refine ev_go (d := (Lf.var w k).d) (ev_tup (eva_cons ev_str (eva_cons (ev_var rfl (.str _)) (eva_cons (ev_var rfl hz) eva_nil)))) (fun v H1 s1 t1 => ?_)
  walk_at "v"
  exact ⟨_, _, _, rfl, g, w, k, 0, hx.tm (Tm.same s1), t1, rfl, hg, hn, Nat.le_refl _, hw, hk, fun v2 H2 s2 t2 => hQ v2 H2 (s1.tr s2) t2⟩

def sp_lam : Sp := sp3 fun x y z H Q _ => ∃ (g : Gt) (w : List Nat) (k : Kd), x = .str (S w) ∧ TD H y k.d ∧ TD H z (upT g).d ∧ g.gok ∧ g.dep ≤ 130 ∧ isName w = true ∧ GK k ∧
  ∀ v H', Same H H' → TD H' v (.tuple [.str (S wLAM), k.d, (upT (subT (absL w k) g 0)).d]) → Q v H'
theorem ok_lam (T : Txt w K mg) {fd : FuncData} (F : Fn_lam K fd) (hm : mg "lam" = some (.ref (He.ga K "lam"))) (c_abstract : CalX P w K mg base CX0 132 "abstract" sp_abstract) : CalX P w K mg base CX0 133 "lam" sp_lam := by
  refine calx0 (k := 132) F hm sc_lam (b_lam F) (fun _ _ _ _ h => sp3_len h) (fun cdv A outer s H vs Q E hr h => ?_)
  obtain ⟨x0, x1, x2, rfl, h⟩ := h
  refine ⟨_, (pss_one (ps_ret (pe_tup (pa_cons pe_str (pa_cons (pv 1) (pa_cons (pe_cx c_abstract hr (by decide) rfl pass0 (pa_cons (pv 2) (pa_cons (pv 0) (pa_cons (pv 1) pa_nil)))) pa_nil)))))), ?_⟩
  rw [show start ["name", "kind", "body"] [x0, x1, x2] = [some x0, some x1, some x2] from rfl]
  have ec0 : Str.ofString "lam" = S [108,97,109] := S_ofs (by decide +kernel)
  rw [ec0]
  obtain ⟨g, w, k, rfl, hy, hz, hg, hn, hw, hk, hQ⟩ := h
  try dsimp only [cxOf]
  walk_at "v"
  refine w_tupN ?_
  walk_at "v"
  refine ⟨_, _, _, rfl, g, w, k, hz, rfl, hy, hg, hn, hw, hk, fun v1 H1 s1 t1 => ?_⟩
  walk_at "v"
  refine t_new (ds := [.str (S wLAM), k.d, (upT (subT (absL w k) g 0)).d]) (.cons (.str _) (.cons (hy.tm (Tm.same s1)) (.cons t1 .nil))) (fun p3 H3 hp3 s3 t3 => ?_)
  exact hQ _ H3 (s1.tr s3) t3
end
end K03

/-! Dicts copied and compared, defs with a star parameter: rules and steps. -/
namespace L2
open PySem PySem.Spec PyProof.Rows SX TL
section
variable {X : Cx}
/-- dict(d) -/
def rDictC : List V → Hp → VK → Prop := fun xs H Q => ∃ (a : Addr) (kvs : List (Key × V)), xs = [.ref a] ∧ H a = some (.dK kvs) ∧ ∀ p, H p = none → Q (.ref p) (upd H p (.dK kvs))
theorem call_dictC : CallR X (.type "dict") rDictC := by
  intro pins s σ H xs us Q I r h
  obtain ⟨a, kvs, rfl, ha, q⟩ := h
  obtain ⟨u, rfl, ru⟩ := r.one
  cases ru
  exact d_copyOf I (.inl ha) fun p s' hp I' => ⟨.ref p, _, I', rfl, q p hp⟩
theorem eqAt_same2 {A : Around} {s : Shared} {v : V} {u u' : Value} (r : RelV v u) (r' : RelV v u') (f : flatB v = true ∨ ∃ a, v = .ref a) : SeqAt.EqAt A s u u' true := by
  rcases f with f | ⟨a, rfl⟩
  · exact eqAt_same r r' f
  · cases (show u = Value.ref a from r); cases (show u' = Value.ref a from r'); exact SeqAt.EqAt.same _
theorem hits_all2 {κ : Type} [DecidableEq κ] {A : Around} {s : Shared} {kvs : List (κ × V)} {vb : List (κ × Value)} (rb : KV kvs vb) {ks : List (κ × V)} {va : List (κ × Value)} (ra : KV ks va) :
    (∀ p ∈ ks, valV kvs p.1 = some p.2 ∧ (flatB p.2 = true ∨ ∃ a, p.2 = .ref a)) → PySem.W.KeqHits A s vb va true := by
  unfold KV at ra
  induction ra with
  | nil => intro _; exact .nil
  | @cons p q ps qs h t ih =>
    intro hp
    obtain ⟨h1, h2⟩ := h
    obtain ⟨e, f⟩ := hp p List.mem_cons_self
    have rr : RelO (some p.2) (valueAt vb p.1) := by rw [← e]; exact rb.val p.1
    obtain ⟨y, hy, ry⟩ := rr.some_of
    obtain ⟨k, v⟩ := q
    have h1' : p.1 = k := h1
    rw [h1'] at hy
    show PySem.W.KeqHits A s vb ((k, v) :: qs) (true && true)
    exact .hit hy (eqAt_same2 h2 ry f) (ih fun p' hm => hp p' (List.mem_cons_of_mem _ hm))
/-- == of a dict and its copy -/
def SameD (x y : V) (H : Hp) : Prop := ∃ (a b : Addr) (kvs : List (Key × V)), x = .ref a ∧ y = .ref b ∧ H a = some (.dK kvs) ∧ H b = some (.dK kvs) ∧ ∀ p ∈ kvs, flatB p.2 = true ∨ ∃ a, p.2 = .ref a
def rEqDC : R2 := fun x y H Q => SameD x y H ∧ Q (.bl true) H
def rNeDC : R2 := fun x y H Q => SameD x y H ∧ Q (.bl false) H
theorem op_eqDC (hu : X.A.units < cLine) : OpR X (compareOp .Eq) rEqDC := by
  intro pins s σ H x y v u Q I rx ry h
  obtain ⟨⟨a, b, kvs, rfl, rfl, ea, eb, fl⟩, q⟩ := h
  obtain rfl : v = Value.ref a := rx
  obtain rfl : u = Value.ref b := ry
  obtain ⟨_, ya, va, ra, da⟩ := (show ObjOk X.prog X.w H s.heap a (.dK kvs) from I.hok a _ ea)
  obtain ⟨_, yb, vb, rb, db⟩ := (show ObjOk X.prog X.w H s.heap b (.dK kvs) from I.hok b _ eb)
  have hl : va.length = vb.length := ra.length.symm.trans rb.length
  have nd : (kvs.map (·.1)).Nodup := by
    obtain ⟨_, _, _, _, _, _, _, _, nd⟩ := da
    rw [ra.keys]; exact nd
  exact PySem.W.keq_eq (knd := mixKind X.prog X.w) (r := true) ya yb da db hu (fun _ => hits_all2 rb ra fun p hp => ⟨val_nodup nd p hp, fl p hp⟩) (fin_bl I q (by simp [hl]))
theorem op_neDC (hu : X.A.units < cLine) : OpR X (compareOp .NotEq) rNeDC := by
  intro pins s σ H x y v u Q I rx ry h
  obtain ⟨⟨a, b, kvs, rfl, rfl, ea, eb, fl⟩, q⟩ := h
  obtain rfl : v = Value.ref a := rx
  obtain rfl : u = Value.ref b := ry
  obtain ⟨_, ya, va, ra, da⟩ := (show ObjOk X.prog X.w H s.heap a (.dK kvs) from I.hok a _ ea)
  obtain ⟨_, yb, vb, rb, db⟩ := (show ObjOk X.prog X.w H s.heap b (.dK kvs) from I.hok b _ eb)
  have hl : va.length = vb.length := ra.length.symm.trans rb.length
  have nd : (kvs.map (·.1)).Nodup := by
    obtain ⟨_, _, _, _, _, _, _, _, nd⟩ := da
    rw [ra.keys]; exact nd
  exact PySem.W.keq_ne (knd := mixKind X.prog X.w) (r := true) ya yb da db hu (fun _ => hits_all2 rb ra fun p hp => ⟨val_nodup nd p hp, fl p hp⟩) (fin_bl I q (by simp [hl]))
end
theorem un_of {A : Around} {k : Nat} (r : Room k A) : A.units < cLine := Nat.lt_of_le_of_lt (Nat.le_succ _) (hu_of r)
/-! steps -/
section
variable {σ : St} {H : Hp} {Q : VK} {td ty tx tv : TE} {D : Ends} {a p : Addr} {kvs : List (Key × V)} {k : Key} {v y : V} {o : Option V}
theorem w_dget (h : td σ H fun x H1 => ty σ H1 fun y H2 => ∃ a v, x = .ref a ∧ DGet H2 a y (some v) ∧ Q v H2) : tDGet td ty σ H Q := h
theorem w_din (h : ty σ H fun y H1 => td σ H1 fun x H2 => ∃ a o, x = .ref a ∧ DGet H2 a y o ∧ Q (.bl o.isSome) H2) : tDIn ty td σ H Q := h
theorem w_dnotin (h : ty σ H fun y H1 => td σ H1 fun x H2 => ∃ a o, x = .ref a ∧ DGet H2 a y o ∧ Q (.bl (!o.isSome)) H2) : tDNotIn ty td σ H Q := h
theorem w_dget2 (h : td σ H fun x H1 => ∃ a, x = .ref a ∧ IsD H1 a ∧ ty σ H1 fun y H2 => tx σ H2 fun z H3 => ∃ o, DGet H3 a y o ∧ Q (o.getD z) H3) : tDGet2 td ty tx σ H Q := h
theorem w_dnew (h : ∀ p H', H p = none → Same H H' → H' p = some (.dK []) → Q (.ref p) H') : tDNewK σ H Q := fun p hp => h p _ hp (same_upd hp) upd_same
/-- reading of a dict with plain keys -/
theorem k_get {R : V → Prop} (e : H a = some (.dK kvs)) (l : valV kvs k = some v) (h : R v) (hy : y = kV k := by rfl) : ∃ a' v', V.ref a = .ref a' ∧ DGet H a' y (some v') ∧ R v' := ⟨a, v, rfl, by rw [hy, ← l]; exact DGet.k e, h⟩
theorem k_in {R : Option V → Prop} (e : H a = some (.dK kvs)) (h : R (valV kvs k)) (hy : y = kV k := by rfl) : ∃ a' o, V.ref a = .ref a' ∧ DGet H a' y o ∧ R o := ⟨a, _, rfl, by rw [hy]; exact DGet.k e, h⟩
theorem k_isD {R : Addr → Prop} (e : H a = some (.dK kvs)) (h : R a) : ∃ a', V.ref a = .ref a' ∧ IsD H a' ∧ R a' := ⟨a, rfl, .inl ⟨kvs, .inl e⟩, h⟩
theorem k_get2 {R : Option V → Prop} (e : H a = some (.dK kvs)) (h : R (valV kvs k)) (hy : y = kV k := by rfl) : ∃ o, DGet H a y o ∧ R o := ⟨_, by rw [hy]; exact DGet.k e, h⟩
theorem k_put {R : Hp → Prop} (e : H a = some (.dK kvs)) (hz : kvs.length ≤ 4096) (h : ∀ H', H' a = some (.dK (putK kvs k v)) → Ex a H H' → R H') (hy : y = kV k := by rfl) : rSetD (.ref a) y v H R :=
  ⟨a, _, rfl, by rw [hy]; exact DPut.k e (Nat.lt_of_le_of_lt hz (by decide)), h _ upd_same fun b hb => upd_ne hb⟩
theorem w_dictC (e : H a = some (.dK kvs)) (h : ∀ p H', H p = none → Same H H' → H' p = some (.dK kvs) → Q (.ref p) H') : rDictC [.ref a] H Q := ⟨a, kvs, rfl, e, fun p hp => h p _ hp (same_upd hp) upd_same⟩
end
theorem Tm.exK {H H' : Hp} {p : Addr} {kvs : List (Key × V)} (hp : H p = some (.dK kvs)) (x : Ex p H H') : Tm H H' := fun b ys e => by
  rw [x b (ne_of e hp (by intro z; cases z))]; exact e
/-! ### a def with a star parameter, called plainly -/
structure CalR (P : Program) (w : World) (K : PySem.W.Frag) (mg : Str → Option Value) (base : Heap) (CX : CXT) (k : Nat) (x : Str) (sp : Sp) : Prop where
  ex : ∃ (f : Addr), FnR P w K mg base CX k f sp ∧ mg x = some (.ref f) ∧ PySem.W.keepIn K (.ref f) = true
section
variable {X : Cx} {CX : CXT} {k j : Nat} {x : Str} {sp : Sp} {p pos : Pos} {e : Expr} {es : List Expr} {t : TA} {E : XK}
theorem pe_cr (c : CalR X.prog X.w X.K X.mg X.base CX k x sp) (hr : Room j X.A) (hk : k ≤ j) (hg : Gl X x) (hx : Passes CX X E) (ha : PA X (e :: es) t)
    (hdb : (x == ("__debug__" : Str)) = false := by decide) (he : starEach (e :: es) X.env = (false, eval e X.env) :: starEach es X.env := by rfl) (hpl : (backTo pos (starEach es X.env)).any (·.1) = false := by rfl) :
    PE X (.Call (.Name x p) (e :: es) [] pos) (fun σ H Q => t σ H fun vs H1 => sp vs H1 Q E) := by
  obtain ⟨f, F, hm, kp⟩ := c.ex
  refine ⟨fun pins s σ H Q I h => ?_⟩
  refine wpAny_Call_Name_kw (ld_glob I hg hm ?_ hdb)
  refine PySem.W.callWith_K (h₀ := X.base) I.ok.mod.kin kp (thn (ha.run pos pins s σ H _ I h) fun us s1 ⟨vs, H1, I1, r, q⟩ => ⟨I1.kIn, ?_⟩) he hpl
  exact wpAny_call (run_fnR F (hr.mono hk) hx I1 r q)
end
/-- a def f(a, *r) without try and raise, at most 5 arguments behind the first -/
theorem calr0 {P : Program} {w : World} {K : PySem.W.Frag} {mg : Str → Option Value} {base : Heap} {x : Str} {params : Arguments} {body : List Stmt} {scope : Scope} {f : Addr} {fd : FuncData} {N : List Str} {pa pv : Str} {k : Nat} {sp : Sp} (F : FunD K x x params body scope [] [] f fd) (hm : mg x = some (.ref f)) (S : FnScope N [pa, pv] scope)
    (hb : ∀ (kV doc pm : Value) (an : Option Addr) (cdv ct : Value) (u : Value) (rest : List Value), rest.length ≤ 5 → bindArgs (PySem.W.fnOf x x params body scope .none kV doc pm an cdv ct) ⟨u :: rest, []⟩ = (newTuple rest >>= fun t => pure [(pa, u), (pv, t)]))
    (hbody : ∀ (cdv : Value) (A : Around) (outer : List Env) (s : Shared) (H : Hp) (vs : List V) (Q : VK) (E : XK), Room k (A.deeper (envOfC x scope s.heap.objs.size f cdv)) → sp vs H Q E →
      ∃ t, PSs (cxOf CX0 P w K mg base N x scope f cdv A outer s H E).nox body t ∧ t { nx := fun _ H' => Q .non H', rt := Q } (start N vs) H) : CalR P w K mg base CX0 (k + 1) x (fun vs H Q E => ∃ v rest, vs = v :: rest ∧ rest.length ≤ 5 ∧ ∀ p H', H p = none → Same H H' → H' p = some (.tup rest) → sp [v, .ref p] H' Q E) := by
  obtain ⟨oc, od, dV, kV, doc, pm, an, cdv, ct, osl, rfl, lk, hcd, hD, _⟩ := F.ex
  rcases hD with ⟨_, rfl⟩ | ⟨e, _⟩
  · refine ⟨f, FnR.imp (fn_ofV (nmax := 5) (sp := sp) lk hcd S (by decide) (hb kV doc pm an cdv ct) (fun _ _ _ _ _ _ _ _ _ _ _ _ z => z) fun A outer s H vs Q E hr h => ?_) (fun vs H Q E ⟨v, rest, e, hl, q⟩ => ⟨v, rest, e, hl, fun p hp => q p _ hp (same_upd hp) upd_same⟩), hm, F.kp⟩
    obtain ⟨t, h1, h2⟩ := hbody cdv A outer s H vs Q E hr h
    exact ⟨t, h1.nox, h2⟩
  · exact absurd rfl e
end L2

/-! The plain law of k03: rows of a tree, its parts, its places. -/
namespace K03
open PySem L2 TL SX K02 K01
def rows : Gt → List G2
  | .app f a => .app :: (rows f ++ rows a)
  | .lam k b => .lam k :: rows b
  | .tip x => [.tip x]
theorem fo_rows : ∀ {c : List G2}, fok c → c = ((fo c).map rows).flatten
  | [], _ => rfl
  | .app :: c, h => by
    have ih := fo_rows h.2
    have h1 : 2 ≤ (fo c).length := h.1
    show _ = ((push1 .app (fo c)).map rows).flatten
    match e : fo c, h1 with
    | x :: y :: l, _ =>
      rw [e] at ih
      show _ = ((Tr.app x y :: l).map rows).flatten
      rw [List.map_cons, List.flatten_cons]
      conv => lhs; rw [ih]
      simp only [rows, List.map_cons, List.flatten_cons, List.cons_append, List.append_assoc]
  | .lam k :: c, h => by
    have ih := fo_rows h.2
    have h1 : 1 ≤ (fo c).length := h.1
    show _ = ((push1 (.lam k) (fo c)).map rows).flatten
    match e : fo c, h1 with
    | x :: l, _ =>
      rw [e] at ih
      show _ = ((Tr.lam k x :: l).map rows).flatten
      conv => lhs; rw [ih]
      simp only [rows, List.map_cons, List.flatten_cons, List.cons_append]
  | .tip t :: c, h => by
    have ih := fo_rows h.2
    show _ = ((push1 (.tip t) (fo c)).map rows).flatten
    conv => lhs; rw [ih]
    show _ = ((Tr.tip t :: fo c).map rows).flatten
    simp only [rows, List.map_cons, List.flatten_cons, List.cons_append, List.nil_append]
theorem rows_of {c : List G2} {t : Gt} (h : fok c) (e : fo c = [t]) : c = rows t := by
  have := fo_rows h
  rw [e] at this
  simpa using this
theorem rows_len : ∀ t : Gt, (rows t).length = t.nodes
  | .app f a => by
    have := rows_len f; have := rows_len a
    show (rows f ++ rows a).length + 1 = f.nodes + a.nodes + 1
    rw [List.length_append]; omega
  | .lam k b => by
    have := rows_len b
    show (rows b).length + 1 = b.nodes + 1
    omega
  | .tip x => rfl
theorem nodes_pos : ∀ t : Gt, 1 ≤ t.nodes
  | .app f a => Nat.succ_pos _
  | .lam k b => Nat.succ_pos _
  | .tip x => Nat.le_refl _
theorem dep_nodes : ∀ t : Gt, t.dep ≤ t.nodes
  | .app f a => by
    have := dep_nodes f; have := dep_nodes a; have := nodes_pos f; have := nodes_pos a
    show max f.dep a.dep + 1 ≤ f.nodes + a.nodes + 1
    omega
  | .lam k b => by
    have := dep_nodes b
    show b.dep + 1 ≤ b.nodes + 1
    omega
  | .tip x => Nat.le_refl _
def root : Gt → G2
  | .app _ _ => .app
  | .lam k _ => .lam k
  | .tip x => .tip x
/-- the parts, the whole ahead -/
def subs : Gt → List Gt
  | .app f a => .app f a :: (subs f ++ subs a)
  | .lam k b => .lam k b :: subs b
  | .tip x => [.tip x]
theorem subs_rows : ∀ t : Gt, (subs t).map root = rows t
  | .app f a => by show root _ :: ((subs f ++ subs a).map root) = _; rw [List.map_append, subs_rows f, subs_rows a]; rfl
  | .lam k b => by show root _ :: ((subs b).map root) = _; rw [subs_rows b]; rfl
  | .tip x => rfl
theorem subs_len (t : Gt) : (subs t).length = t.nodes := by rw [← rows_len, ← subs_rows, List.length_map]
theorem subs_head (t : Gt) : ∃ l, subs t = t :: l := by cases t <;> exact ⟨_, rfl⟩
theorem subs_drop : ∀ (t : Gt) {k : Nat} {s : Gt}, (subs t)[k]? = some s → ∃ rest, (subs t).drop k = subs s ++ rest := by
  intro t
  induction t with
  | app f a ih1 ih2 =>
    intro k s h
    cases k with
    | zero => cases h; exact ⟨[], by rw [List.append_nil]; rfl⟩
    | succ k =>
      have h : (subs f ++ subs a)[k]? = some s := h
      show ∃ rest, (subs f ++ subs a).drop k = _
      by_cases z : k < (subs f).length
      · rw [List.getElem?_append_left z] at h
        obtain ⟨rest, e⟩ := ih1 h
        refine ⟨rest ++ subs a, ?_⟩
        rw [List.drop_append_of_le_length (by omega), e, List.append_assoc]
      · rw [List.getElem?_append_right (by omega)] at h
        obtain ⟨rest, e⟩ := ih2 h
        refine ⟨rest, ?_⟩
        rw [List.drop_append, e, List.drop_of_length_le (by omega)]; rfl
  | lam j b ih =>
    intro k s h
    cases k with
    | zero => cases h; exact ⟨[], by rw [List.append_nil]; rfl⟩
    | succ k => exact ih (k := k) h
  | tip x =>
    intro k s h
    cases k with
    | zero => cases h; exact ⟨[], rfl⟩
    | succ k => cases h
theorem subs_at {t : Gt} {k : Nat} (h : k < t.nodes) : ∃ s, (subs t)[k]? = some s := ⟨_, List.getElem?_eq_getElem (by rw [subs_len]; exact h)⟩
theorem rows_at {t : Gt} {k : Nat} {s : Gt} (h : (subs t)[k]? = some s) : (rows t)[k]? = some (root s) := by
  rw [← subs_rows, List.getElem?_map, h]; rfl
theorem at_drop {α : Type} {l m : List α} {k j : Nat} (e : l.drop k = m) : l[k + j]? = m[j]? := by rw [← e, List.getElem?_drop]
theorem sub_lam {t : Gt} {k : Nat} {j : Kd} {b : Gt} (h : (subs t)[k]? = some (.lam j b)) : (subs t)[k + 1]? = some b := by
  obtain ⟨rest, e⟩ := subs_drop t h
  rw [at_drop e]
  obtain ⟨l, el⟩ := subs_head b
  show (Tr.lam j b :: subs b ++ rest)[1]? = _
  rw [el]; rfl
theorem sub_fun {t : Gt} {k : Nat} {f a : Gt} (h : (subs t)[k]? = some (.app f a)) : (subs t)[k + 1]? = some f := by
  obtain ⟨rest, e⟩ := subs_drop t h
  rw [at_drop e]
  obtain ⟨l, el⟩ := subs_head f
  show (Tr.app f a :: (subs f ++ subs a) ++ rest)[1]? = _
  rw [el]; rfl
theorem sub_arg {t : Gt} {k : Nat} {f a : Gt} (h : (subs t)[k]? = some (.app f a)) : (subs t)[k + 1 + f.nodes]? = some a := by
  obtain ⟨rest, e⟩ := subs_drop t h
  rw [Nat.add_assoc, at_drop e]
  obtain ⟨l, el⟩ := subs_head a
  show (Tr.app f a :: (subs f ++ subs a) ++ rest)[1 + f.nodes]? = _
  rw [Nat.add_comm, List.cons_append, List.getElem?_cons_succ, List.append_assoc, List.getElem?_append_right (by rw [subs_len]; exact Nat.le_refl _), subs_len, Nat.sub_self, el]; rfl
theorem sub_fits {t : Gt} {k : Nat} {s : Gt} (h : (subs t)[k]? = some s) : k + s.nodes ≤ t.nodes := by
  obtain ⟨rest, e⟩ := subs_drop t h
  have hk := (List.getElem?_eq_some_iff.mp h).1
  have := congrArg List.length e
  rw [List.length_drop, List.length_append, subs_len, subs_len] at this
  rw [subs_len] at hk
  omega
/-- the places, as the parts stand -/
def plT : Gt → List Nat → List (List Nat)
  | .app f a, p => p :: (plT f (p ++ [0]) ++ plT a (p ++ [1]))
  | .lam _ b, p => p :: plT b (p ++ [0])
  | .tip _, p => [p]
theorem plT_len : ∀ (t : Gt) (p : List Nat), (plT t p).length = t.nodes
  | .app f a, p => by
    show (plT f _ ++ plT a _).length + 1 = _
    rw [List.length_append, plT_len f, plT_len a]; rfl
  | .lam k b, p => by
    show (plT b _).length + 1 = _
    rw [plT_len b]; rfl
  | .tip x, p => rfl
/-- a step down -/
def stT : Gt → Nat → Option Gt
  | .app f a, n => match n with
    | 0 => some f
    | 1 => some a
    | _ => none
  | .lam _ b, n => match n with
    | 0 => some b
    | _ => none
  | .tip _, _ => none
def atL : List Nat → Gt → Option Gt
  | [], g => some g
  | n :: p, g => (stT g n).bind (atL p)
/-- at a place -/
abbrev atT (g : Gt) (p : List Nat) : Option Gt := atL p g
theorem atT_snoc : ∀ (p : List Nat) (g : Gt) (n : Nat), atT g (p ++ [n]) = (atT g p).bind fun s => stT s n
  | [], g, n => by
    show (stT g n).bind (fun g => some g) = stT g n
    cases stT g n <;> rfl
  | m :: p, g, n => by
    show (stT g m).bind (atL (p ++ [n])) = ((stT g m).bind (atL p)).bind _
    cases stT g m with
    | none => rfl
    | some z => exact atT_snoc p z n
theorem atT_pre : ∀ (p q : List Nat) (g : Gt) {s : Gt}, atT g (p ++ q) = some s → ∃ z, atT g p = some z
  | [], q, g, s, h => ⟨g, rfl⟩
  | m :: p, q, g, s, h => by
    have h : (stT g m).bind (atL (p ++ q)) = some s := h
    show ∃ z, (stT g m).bind (atL p) = some z
    cases e : stT g m with
    | none => rw [e] at h; cases h
    | some z => rw [e] at h; exact atT_pre p q z h
theorem drop_eq {α : Type} {l : List α} {k : Nat} {a : α} (h : l[k]? = some a) : l.drop k = a :: l.drop (k + 1) := by
  obtain ⟨hk, e⟩ := List.getElem?_eq_some_iff.mp h
  rw [List.drop_eq_getElem_cons hk, e]
theorem pl_at : ∀ (t : Gt) (p : List Nat) {k : Nat} {q : List Nat} {s : Gt}, (plT t p)[k]? = some q → (subs t)[k]? = some s → ∃ r, q = p ++ r ∧ atT t r = some s ∧ r.length ≤ t.nodes ∧ ∀ n ∈ r, n ≤ 1 := by
  intro t
  induction t with
  | app f a ih1 ih2 =>
    intro p k q s h1 h2
    cases k with
    | zero => cases h1; cases h2; exact ⟨[], (List.append_nil _).symm, rfl, Nat.zero_le _, fun n h => absurd h List.not_mem_nil⟩
    | succ k =>
      have h1 : (plT f (p ++ [0]) ++ plT a (p ++ [1]))[k]? = some q := h1
      have h2 : (subs f ++ subs a)[k]? = some s := h2
      by_cases z : k < f.nodes
      · rw [List.getElem?_append_left (by rw [plT_len]; exact z)] at h1
        rw [List.getElem?_append_left (by rw [subs_len]; exact z)] at h2
        obtain ⟨r, e1, e2, e3, e4⟩ := ih1 _ h1 h2
        refine ⟨0 :: r, by rw [e1, List.append_assoc]; rfl, e2, by show r.length + 1 ≤ f.nodes + a.nodes + 1; omega, fun n hn => ?_⟩
        rcases List.mem_cons.mp hn with rfl | hn
        · omega
        · exact e4 n hn
      · rw [List.getElem?_append_right (by rw [plT_len]; omega), plT_len] at h1
        rw [List.getElem?_append_right (by rw [subs_len]; omega), subs_len] at h2
        obtain ⟨r, e1, e2, e3, e4⟩ := ih2 _ h1 h2
        refine ⟨1 :: r, by rw [e1, List.append_assoc]; rfl, e2, by show r.length + 1 ≤ f.nodes + a.nodes + 1; omega, fun n hn => ?_⟩
        rcases List.mem_cons.mp hn with rfl | hn
        · omega
        · exact e4 n hn
  | lam j b ih =>
    intro p k q s h1 h2
    cases k with
    | zero => cases h1; cases h2; exact ⟨[], (List.append_nil _).symm, rfl, Nat.zero_le _, fun n h => absurd h List.not_mem_nil⟩
    | succ k =>
      obtain ⟨r, e1, e2, e3, e4⟩ := ih _ (k := k) h1 h2
      refine ⟨0 :: r, by rw [e1, List.append_assoc]; rfl, e2, by show r.length + 1 ≤ b.nodes + 1; omega, fun n hn => ?_⟩
      rcases List.mem_cons.mp hn with rfl | hn
      · omega
      · exact e4 n hn
  | tip x =>
    intro p k q s h1 h2
    cases k with
    | zero => cases h1; cases h2; exact ⟨[], (List.append_nil _).symm, rfl, Nat.zero_le _, fun n h => absurd h List.not_mem_nil⟩
    | succ k => cases h1
def plD (p : List Nat) : PyData := .tuple (p.map fun (n : Nat) => PyData.int (n : Int))
def trs (gs : List Gt) : List PyData := gs.map fun g => (upT g).d
/-- the function ahead and its arguments -/
def spT : Gt → Gt × List Gt
  | .app f a => ((spT f).1, (spT f).2 ++ [a])
  | g => (g, [])
def spD (t : Gt) : PyData := .tuple [(upT (spT t).1).d, .tuple (trs (spT t).2)]
/-! two lists, joined at m -/
def mixL {α : Type} (a b : List α) (m : Nat) : List α := a.take m ++ b.drop m
theorem mixL_len {α : Type} {a b : List α} {n : Nat} (ha : a.length = n) (hb : b.length = n) {m : Nat} (h : m ≤ n) : (mixL a b m).length = n := by
  unfold mixL; rw [List.length_append, List.length_take, List.length_drop]; omega
theorem mixL_lo {α : Type} {a b : List α} {m k : Nat} (hm : m ≤ a.length) (h : k < m) : (mixL a b m)[k]? = a[k]? := by
  unfold mixL; rw [List.getElem?_append_left (by rw [List.length_take]; omega), List.getElem?_take_of_lt h]
theorem mixL_hi {α : Type} {a b : List α} {m k : Nat} (hm : m ≤ a.length) (h : m ≤ k) : (mixL a b m)[k]? = b[k]? := by
  unfold mixL
  have hl : (a.take m).length = m := by rw [List.length_take]; omega
  rw [List.getElem?_append_right (by omega), List.getElem?_drop, hl]; congr 1; omega
theorem mixL_set {α : Type} {a b : List α} {m : Nat} {x : α} (ha : m < a.length) (hb : b[m]? = some x) : (mixL a b (m + 1)).set m x = mixL a b m := by
  apply List.ext_getElem?
  intro k
  have hlb := (List.getElem?_eq_some_iff.mp hb).1
  have hl : (mixL a b (m + 1)).length ≥ m + 1 := by unfold mixL; rw [List.length_append, List.length_take]; omega
  rw [List.getElem?_set]
  by_cases z : m = k
  · subst z
    rw [if_pos rfl, if_pos (by omega), mixL_hi (by omega) (Nat.le_refl _), hb]
  · rw [if_neg z]
    by_cases y : k < m
    · rw [mixL_lo (by omega) (by omega), mixL_lo (by omega) y]
    · rw [mixL_hi (by omega) (by omega), mixL_hi (by omega) (by omega)]
theorem mixL_same {α : Type} {a b : List α} {m : Nat} {x : α} (ha : a[m]? = some x) (hb : b[m]? = some x) : mixL a b (m + 1) = mixL a b m := by
  have hla := (List.getElem?_eq_some_iff.mp ha).1
  rw [← mixL_set (m := m) hla hb]
  apply List.ext_getElem?
  intro k
  rw [List.getElem?_set]
  by_cases z : m = k
  · subst z
    have hl : (mixL a b (m + 1)).length ≥ m + 1 := by unfold mixL; rw [List.length_append, List.length_take]; omega
    rw [if_pos rfl, if_pos (by omega), mixL_lo (by omega) (by omega), ha]
  · rw [if_neg z]
theorem mixL_zero {α : Type} (a b : List α) : mixL a b 0 = b := by unfold mixL; rfl
theorem mixL_all {α : Type} {a b : List α} (h : a.length = b.length) : mixL a b a.length = a := by
  unfold mixL; rw [List.take_length, h, List.drop_length, List.append_nil]
/-- lams m of apps n of x -/
def chT (base : Kd) (hop x : Gt) : Nat → Nat → Gt
  | 0, 0 => x
  | 0, n + 1 => .app hop (chT base hop x 0 n)
  | m + 1, n => .lam base (chT base hop x m n)
end K03

/-! Star defs with any number of parameters ahead; reversed lists; is not None. -/
namespace L2
open PySem PySem.Spec PyProof.Rows SX TL
/-- def f(a, .., *r) without try and raise -/
theorem calrS {P : Program} {w : World} {KF : PySem.W.Frag} {mg : Str → Option Value} {base : Heap} {x : Str} {params : Arguments} {body : List Stmt} {scope : Scope} {f : Addr} {fd : FuncData} {N ps : List Str} {pv : Str} {k : Nat} {sp : Sp} (F : FunD KF x x params body scope [] [] f fd) (hm : mg x = some (.ref f)) (S : FnScope N (ps ++ [pv]) scope)
    (hb : ∀ (kV doc pm : Value) (an : Option Addr) (cdv ct : Value) (us rest : List Value), us.length = ps.length → bindArgs (PySem.W.fnOf x x params body scope .none kV doc pm an cdv ct) ⟨us ++ rest, []⟩ = (newTuple rest >>= fun t => pure (ps.zip us ++ [(pv, t)])))
    (hbody : ∀ (cdv : Value) (A : Around) (outer : List Env) (s : Shared) (H : Hp) (vs : List V) (Q : VK) (E : XK), Room k (A.deeper (envOfC x scope s.heap.objs.size f cdv)) → sp vs H Q E →
      ∃ t, PSs (cxOf CX0 P w KF mg base N x scope f cdv A outer s H E).nox body t ∧ t { nx := fun _ H' => Q .non H', rt := Q } (start N vs) H) : CalR P w KF mg base CX0 (k + 1) x (fun vs H Q E => ∃ ws rest, vs = ws ++ rest ∧ ws.length = ps.length ∧ rest.length ≤ 4096 ∧ ∀ p H', H p = none → Same H H' → H' p = some (.tup rest) → sp (ws ++ [.ref p]) H' Q E) := by
  obtain ⟨oc, od, dV, kV, doc, pm, an, cdv, ct, osl, rfl, lk, hcd, hD, _⟩ := F.ex
  rcases hD with ⟨_, rfl⟩ | ⟨e, _⟩
  · refine ⟨f, FnR.imp (StX.fn_star (ps := ps) (pv := pv) (sp := sp) lk hcd S StX.cxUp_none (hb kV doc pm an cdv ct) fun A outer s H vs Q E hr h => ?_) (fun vs H Q E ⟨ws, rest, e, hl, hz, q⟩ => ⟨ws, rest, e, hl, Nat.le_trans hz (by decide), fun p hp => q p _ hp (same_upd hp) upd_same⟩), hm, F.kp⟩
    obtain ⟨t, h1, h2⟩ := hbody cdv A outer s H vs Q E hr h
    exact ⟨t, h1.nox, h2⟩
  · exact absurd rfl e
theorem CalR.imp {P : Program} {w : World} {KF : PySem.W.Frag} {mg : Str → Option Value} {base : Heap} {CX : CXT} {k : Nat} {x : Str} {sp sp' : Sp} (c : CalR P w KF mg base CX k x sp) (h : ∀ vs H Q E, sp' vs H Q E → sp vs H Q E) : CalR P w KF mg base CX k x sp' :=
  let ⟨f, F, a, b⟩ := c.ex; ⟨f, F.imp h, a, b⟩
section
variable {σ : St} {H : Hp} {Q : VK} {tA : TA} {D : Ends} {K : PySem.W.Frag} {R : It → Hp → Prop} {a : Addr} {xs : List V} {g : TG} {tb : TS} {x : V}
theorem w_iRev (h : tA σ H fun vs H1 => ∃ (a : Addr) (xs : List V), vs = [.ref a] ∧ SqL K H1 a xs ∧ R (Itv K a xs.length) H1) : iRev K tA σ H R := h
theorem w_notN (h : Q (.bl (!decide (x = .non))) H) : (fun x y H Q => y = V.non ∧ Q (.bl (!decide (x = V.non))) H : R2) x .non H Q := ⟨rfl, h⟩
theorem for_rev (Pv : Nat → St → Hp → Prop) (h0 : Pv 0 σ H) (hl : ∀ i σ H, i ≤ xs.length → Pv i σ H → SqL K H a xs)
    (hs : ∀ i x σ H, xs[xs.length - 1 - i]? = some x → i < xs.length → Pv i σ H → g x σ H fun σ2 H2 => tb { D with nx := Pv (i + 1), ct := Pv (i + 1), bk := D.nx } σ2 H2) (hd : ∀ σ H, Pv xs.length σ H → D.nx σ H) :
    ∃ W : Nat → Nat → St → Hp → Prop, (∃ m, W 0 m σ H) ∧ ∀ i m σ H, W i m σ H →
      ((Itv K a xs.length).stop i H ∧ D.nx σ H) ∨ ((Itv K a xs.length).go i H ∧ ∃ N : St → Hp → Prop, (∀ σ' H', N σ' H' → ∃ m', m' < m ∧ W (i + 1) m' σ' H') ∧ ∀ x H', (Itv K a xs.length).yld i H x H' → g x σ H' fun σ2 H2 => tb { D with nx := N, ct := N, bk := D.nx } σ2 H2) := by
  refine ⟨fun i m σ H => m = xs.length - i ∧ i ≤ xs.length ∧ Pv i σ H, ⟨xs.length, by simp, Nat.zero_le _, h0⟩, ?_⟩
  rintro i m σ H ⟨rfl, hi, p⟩
  have hq := hl i σ H hi p
  by_cases hlt : i < xs.length
  · refine .inr ⟨⟨hlt, xs, xs[xs.length - 1 - i], hq, List.getElem?_eq_getElem (by omega)⟩, Pv (i + 1), fun σ' H' p' => ⟨xs.length - (i + 1), by omega, rfl, hlt, p'⟩, fun x H' y => ?_⟩
    obtain ⟨e, y⟩ := y
    subst e
    exact hs i x σ _ (y xs hq) hlt p
  · have e : i = xs.length := by omega
    subst e
    exact .inl ⟨Nat.le_refl _, hd σ H p⟩
end
end L2

/-! Generator defs: what they hand out, gathered by tuple(..) . -/
namespace L2
open PySem PySem.Spec PyProof.Rows SX TL GenW

/-- a generator is gathered -/
theorem collect_made {P : Program} {w : World} {outer : List Env} {H : Hp} {sc s : Shared} {ex : List Addr} {Q : List V → Hp → Prop} {EX : XK} {A : Around} {k : Nat} {u : Value} {Q' : List Value → Shared → Prop} {E : Value → Shared → Prop}
    (hr : Room (k + 2) A) (hfr : A.frames = some outer) (h : GMade P w k outer H sc ex Q EX u s)
    (hQ : ∀ (S : Addr) (s' : Shared) (acc : Array Value) (c : Nat) (H' : Hp) (ys : List V), s.heap.objs.size ≤ S → s'.heap.get? S = some (lstObj acc c) → Vals ys acc.toList → ys.length ≤ sizeLine → s'.os = sc.os → AllBare s'.gens → Un (frs outer) ex H H' sc.heap s'.heap → HOk P w H' s'.heap → H' S = none → Q ys H' → Q' acc.toList s')
    (hexc : ∀ (e : Value) (s' : Shared) (g : Nat), CX P w outer H sc EX e s' → NotStop (model P w) e s'.heap ∧ E e (s'.setGen g .finished)) :
    wpAny (model P w) A (collect u) Q' E s := by
  obtain ⟨a, g, c, rfl, ha1, ha2, hg, hgs, hos, hb, hl, hkp, wake⟩ := h
  have hSa : s.heap.objs.size ≠ a := Nat.ne_of_gt ha2
  have hcl : cStatics < s.heap.objs.size := let ⟨_, hn, _⟩ := hl; hn.lt
  have hSc : s.heap.objs.size ≠ cStatics := Nat.ne_of_gt hcl
  unfold collect
  refine wpAny_bind (wpAny_runValue (codeAny_builtin F.entry_proto_collect ?_))
  rw [Around.under_plainId F.plain_proto_collect _]
  show wpAny _ A.in1 (newList [] >>= fun l => again (.builtin "list.__iadd__" ⟨[l, .ref a], []⟩)) _ _ s
  refine wpAny_bind (wpAny_newObj_type ?_)
  refine wpAny_pure ⟨plainId_quiet F.plain_list_iadd _, codeAny_builtin F.entry_list_iadd ?_⟩
  rw [Around.under_plainId F.plain_list_iadd _]
  have hS2 : (s.heap.push { cls := .type "list", data := .seq ([] : List Value).toArray }).get? s.heap.objs.size = some { cls := .type "list", data := .seq #[] } := Heap.get?_push_size _ rfl
  show wpAny _ A.in1 (Builtin.List.listExtendWith (.ref s.heap.objs.size) (.ref a) (.ref s.heap.objs.size)) _ _ _
  unfold Builtin.List.listExtendWith
  have up : ∀ (h : Heap) (f : Obj → Obj), (∀ b o, s.heap.get? b = some o → h.get? b = some o) → ∀ b o, s.heap.get? b = some o → (h.update s.heap.objs.size f).get? b = some o := fun h f q b o e =>
    (Heap.get?_update_other _ _ (Ne.symm (Nat.ne_of_lt (Heap.lt_size e)))).trans (q b o e)
  have k2 : ∀ b o, s.heap.get? b = some o → (s.heap.push { cls := .type "list", data := .seq ([] : List Value).toArray }).get? b = some o := fun b o e => Heap.get?_push_of_some _ e
  have gty : ∀ {h : Heap}, (∀ b o, s.heap.get? b = some o → h.get? b = some o) → h.IsGen a g := fun {h} q => hg.keeps q
  refine wpAny_bind (wpAny_typeOf (Heap.IsGen.typeIs (s := { s with heap := _ }) (gty k2)) ?_)
  have h1 : Builtin.List.listSameRef (.ref s.heap.objs.size) (.ref a) = false := by simp [Builtin.List.listSameRef, hSa]
  have h2 : (Value.type "generator" == Value.type "list") = false := by decide
  have h3 : (Value.type "generator" == Value.type "tuple") = false := by decide
  simp only [h1, h2, h3, Bool.or_false, Bool.false_eq_true, if_false]
  refine wpAny_bind (wpAny_pyIter_gen (s := { s with heap := _ }) (gty k2) ?_)
  refine wpAny_bind (wpAny_holding ?_)
  unfold Builtin.List.listLengthHint
  refine wpAny_bind (wpAny_specialOf (Heap.IsGen.typeIs (s := { s with heap := _ }) (gty k2)) F.gen_no_len ?_)
  show wpAny _ A.in1 (specialOf (Value.ref a) (Str.ofString "__length_hint__") >>= _) _ _ _
  refine wpAny_bind (wpAny_specialOf (Heap.IsGen.typeIs (s := { s with heap := _ }) (gty k2)) F.gen_no_hint ?_)
  refine wpAny_pure ?_
  show wpAny _ A.in1 (rule "list.extend.makes-room" >>= fun _ => Builtin.List.listTouch (.ref s.heap.objs.size) >>= fun _ =>
    again (.builtin "list.extend.loop" ⟨[.ref s.heap.objs.size, .ref a, .ref s.heap.objs.size], []⟩)) _ _ _
  refine wpAny_bind (wpAny_rule ?_)
  refine wpAny_bind ?_
  show wpAny _ A.in1 (updateSeq s.heap.objs.size (·.push .none) >>= fun _ => updateSeq s.heap.objs.size (·.pop)) _ _ _
  refine wpAny_bind (wpAny_updateSeq hS2 rfl ?_)
  have hS3 := Heap.get?_update_self (Obj.mapSeq (·.push Value.none)) hS2 rfl
  refine wpAny_updateSeq (hz := by seq_fits) hS3 rfl ?_
  have hS4 := Heap.get?_update_self (Obj.mapSeq (·.pop)) hS3 rfl
  have k4 := up _ (Obj.mapSeq (·.pop)) (up _ (Obj.mapSeq (·.push Value.none)) k2)
  refine wpAny_pure ⟨plainId_quiet F.plain_extend_loop _, ?_⟩
  refine drain (P := P) (w := w) (outer := outer) (H := H) (sc := sc) (ex := ex) (Q := Q) (EX := EX) (A := A) (g := g) hr.hd (by have := hr.dp; show A.depth < _; omega) hSa hSc
    (fun s' acc c H' ys q1 q2 q3 q4 q5 q6 q7 q8 q9 => ?_) (fun e s' hc => hexc e s' g hc)
    sizeLine _ (gty k4) (hl.keeps k4) ⟨_, hgs, rfl, ?_⟩
  · show wpAny _ A (load s.heap.objs.size >>= _) _ _ s'
    refine wpAny_bind (wpAny_load q1 ?_)
    exact wpAny_pure (hQ _ s' acc c H' ys (Nat.le_refl _) q1 q2 q3 q4 q5 q6 q7 q8 q9)
  refine wake _ _ _ ⟨hr.hd, ?_, ?_⟩ hfr (Nat.le_refl _) k4 ⟨_, hS4⟩ hos (allBare_setGen (s := { s with heap := _ }) hb rfl)
  · have := hr.dp
    show A.depth + 3 * k + 5 < _
    omega
  · have := hr.un
    show A.units + 1 + 1 + 16 * k + 200 < _
    omega

/-- tuple.__new__ of a generator -/
theorem code_tuple_made {P : Program} {w : World} {outer : List Env} {H : Hp} {sc s : Shared} {ex : List Addr} {Q : List V → Hp → Prop} {EX : XK} {A : Around} {k : Nat} {u : Value} {Q₁ : Value → Shared → Prop} {E : Value → Shared → Prop}
    (hr : Room (k + 3) A) (hfr : A.frames = some outer) (hm : GMade P w k outer H sc ex Q EX u s)
    (hQ : ∀ (S : Addr) (s' : Shared) (acc : Array Value) (c : Nat) (H' : Hp) (ys : List V), s.heap.objs.size ≤ S → s'.heap.get? S = some (lstObj acc c) → Vals ys acc.toList → ys.length ≤ sizeLine → s'.os = sc.os → AllBare s'.gens → Un (frs outer) ex H H' sc.heap s'.heap → HOk P w H' s'.heap → H' S = none → Q ys H' →
      Q₁ (.ref s'.heap.objs.size) { s' with heap := s'.heap.push { cls := .type "tuple", data := .seq acc } })
    (hexc : ∀ (e : Value) (s' : Shared) (g : Nat), CX P w outer H sc EX e s' → NotStop (model P w) e s'.heap ∧ E e (s'.setGen g .finished)) :
    codeAny (model P w) A (.call (.builtin "tuple.__new__") ⟨[.type "tuple", u], []⟩) (wants Q₁ E) s := by
  obtain ⟨a, g, eu, hg⟩ : ∃ a g, u = .ref a ∧ s.heap.IsGen a g := by obtain ⟨a, g, _, e, _, _, h, _⟩ := hm; exact ⟨a, g, e, h⟩
  refine codeAny_of_tree ?_
  show wpAny _ A.in1 (do checkBuiltinCall "tuple.__new__" ⟨[.type "tuple", u], []⟩; again (.builtin "tuple.__new__" ⟨[.type "tuple", u], []⟩)) _ _ s
  refine wpAny_bind (wpAny_of_eq (F.newCall_tuple_1 _) (wpAny_pure ⟨plainId_quiet F.plain_tuple_new _, codeAny_builtin F.entry_tuple_new ?_⟩))
  rw [Around.under_plainId F.plain_tuple_new _]
  have hsub := sub_tuple_self
  have hinit := init_tuple_lookup
  have hmh := madeHere_tuple
  have hTI : s.TypeIs u "generator" := by rw [eu]; exact Heap.IsGen.typeIs (s := s) hg
  have hr1 : Room (k + 2) A.in1 := hr.in1
  subst eu
  wp_walk using wpAny_typeOf hTI, collect_made hr1 hfr hm
  · intro S s' acc c H' ys q0 q1 q2 q3 q4 q5 q6 q7 q8 q9
    show wpAny _ _ (Builtin.Tuple.tupleExact acc.toList.toArray >>= fun v => ret v) _ _ _
    unfold Builtin.Tuple.tupleExact
    have hz : acc.size ≤ sizeLine := by rw [q2.length] at q3; simpa using q3
    refine wpAny_bind (wpAny_newObj_type ?_ (by show acc.toList.toArray.size ≤ sizeLine; simpa using hz))
    refine wpAny_pure ?_
    have e : acc.toList.toArray = acc := by simp
    rw [e]
    exact hQ S s' acc c H' ys q0 q1 q2 q3 q4 q5 q6 q7 q8 q9
  · exact hexc

theorem call_tuple_made {P : Program} {w : World} {outer : List Env} {H : Hp} {sc s : Shared} {ex : List Addr} {Q : List V → Hp → Prop} {EX : XK} {A : Around} {k : Nat} {u : Value} {Q' : Value → Shared → Prop} {E : Value → Shared → Prop}
    (hr : Room (k + 4) A) (hfr : A.frames = some outer) (hm : GMade P w k outer H sc ex Q EX u s)
    (hQ : ∀ (S : Addr) (s' : Shared) (acc : Array Value) (c : Nat) (H' : Hp) (ys : List V), s.heap.objs.size ≤ S → s'.heap.get? S = some (lstObj acc c) → Vals ys acc.toList → ys.length ≤ sizeLine → s'.os = sc.os → AllBare s'.gens → Un (frs outer) ex H H' sc.heap s'.heap → HOk P w H' s'.heap → H' S = none → Q ys H' →
      Q' (.ref s'.heap.objs.size) { s' with heap := s'.heap.push { cls := .type "tuple", data := .seq acc } })
    (hexc : ∀ (e : Value) (s' : Shared) (g : Nat), CX P w outer H sc EX e s' → NotStop (model P w) e s'.heap ∧ E e (s'.setGen g .finished)) :
    wpAny (model P w) A (call (.type "tuple") [u]) Q' E s := by
  refine callType_codes (Q₁ := fun obj s₁ => s₁.TypeIs obj "tuple" ∧ Q' obj s₁) F.called_tuple (F.typeCall_tuple_1 _) F.entry_object_init
    (code_tuple_made hr.in1 hfr hm (fun S s' acc c H' ys q0 q1 q2 q3 q4 q5 q6 q7 q8 q9 => ⟨⟨_, Heap.get?_push_size _ rfl, rfl⟩, hQ S s' acc c H' ys q0 q1 q2 q3 q4 q5 q6 q7 q8 q9⟩) hexc) fun obj s₁ h₁ => ?_
  exact ⟨h₁.1, F.args_object_init_2 obj _, object_init_meets F.called_tuple.init.lookup F.called_tuple.made (by decide) P w A.in1 _ s₁ ⟨h₁.1, rfl, h₁.2⟩⟩

section
variable {X : Cx} {k j : Nat} {x : Str} {p pos pos' : Pos}
/-- what a tuple of a generator is -/
def tTupG (tg : TGen) : TE := fun σ H Q => tg σ H fun out H2 => ∀ p H3, H2 p = none → Same H2 H3 → H3 p = some (.tup out) → Q (.ref p) H3
/-- tuple(g) -/
theorem pe_tupG {e : Expr} {tg : TGen} {E : XK} {nm : Str} (h : PGen X k e tg E) (hx : Passes (CX X.prog X.w) X E) (hns : NoStop X.K E) (hr : Room (k + 4) X.A) (hg : Gl X nm) (hmg : X.mg nm = none) (hv : bootBuiltins nm = some (.type "tuple")) (hnm : nm ≠ "__name__" := by decide) (hdb : (nm == ("__debug__" : Str)) = false := by decide)
    (he : starEach [e] X.env = (false, eval e X.env) :: starEach [] X.env := by rfl) : PE X (.Call (.Name nm p) [e] [] pos) (tTupG tg) := by
  refine ⟨fun pins s σ H Q I hq => ?_⟩
  refine wpAny_Call_Name_kw (ld_blt I hg hmg hv ?_ hnm hdb)
  refine PyProof.Rows.callWith_type1 ?_ he rfl
  rw [he]
  show wpAny _ _ (spliced ((false, eval e X.env) :: backTo pos (starEach [] X.env))) _ _ s
  refine Calls.spliced_cons (thn (h.run pins s σ H _ I hq) fun u s1 ⟨H1, sc, ex, I1, hex, hG⟩ => ?_)
  refine Calls.spliced_nil ?_
  have hsz : sc.heap.objs.size ≤ s1.heap.objs.size := by
    obtain ⟨a, g, c, _, h1, h2, _⟩ := hG
    exact Nat.le_trans h1 (Nat.le_of_lt h2)
  refine call_tuple_made hr I1.ok.frames hG (fun S s' acc c H' ys q0 q1 q2 hl q3 q4 q5 q6 q7 q8 => ?_) fun e s' g hc => ?_
  · have I2 := I1.drained (Nat.le_trans hsz q0) hl q1 q2 hex q3 q4 q5 q6 q7
    have I3 : Inv X pins σ (upd (upd H' S (.lst ys)) s'.heap.objs.size (.tup ys)) { s' with heap := s'.heap.push { cls := .type "tuple", data := .seq acc } } := by
      have h := I2.laid (t' := s'.toks) (h' := s'.heap.push { cls := .type "tuple", data := .seq acc }) (a := s'.heap.objs.size) (o := .tup ys) (fun b o e => Heap.get?_push_of_some _ e) (Nat.le_refl _) (show ObjOk X.prog X.w _ _ _ (.tup ys) from ⟨hl, acc.toList, q2, by simpa using IsTup.new _ _⟩)
      exact h
    have hn : (upd H' S (.lst ys)) s'.heap.objs.size = none := I2.hok.fresh (Nat.le_refl _)
    have hn' : H' s'.heap.objs.size = none := by
      by_cases z : s'.heap.objs.size = S
      · rw [z] at hn; rw [upd_same] at hn; cases hn
      · rw [upd_ne z] at hn; exact hn
    exact ⟨.ref s'.heap.objs.size, _, I3, rfl, q8 _ _ hn' ((same_upd q7).tr (same_upd hn)) upd_same⟩
  · have kin : X.K.In s'.heap := by
      obtain ⟨a, B, H', cls, d, _, fl, _, ub, _⟩ := id hc
      refine I1.ok.mod.kin.keeps fun b o eb => fl.1 b o (ub.keep b o (I1.bs b o eb).1 (I1.bs b o eb).2 fun hm => ?_)
      rcases List.mem_cons.mp (I1.stkSub b hm) with z | z
      · have h1 := Heap.lt_size eb
        have h2 := Nat.le_trans I1.ok.bsz I1.ok.above
        rw [z] at h1
        exact absurd (Nat.lt_of_lt_of_le h1 h2) (Nat.lt_irrefl _)
      · exact I1.ok.nofr eb z
    refine ⟨notStop_of hns kin hc, hx pins σ H1 sc e _ I1 ?_⟩
    · obtain ⟨a, B, H', cls, d, z1, fl, z2, ub, z3, z4, z5, z6⟩ := hc
      exact ⟨a, B, H', cls, d, z1, fl, z2, ub, z3, z4, allBare_setGen z5 rfl, z6⟩
/-- a generator def's promise, by name -/
structure CalGen (P : Program) (w : World) (K : PySem.W.Frag) (mg : Str → Option Value) (base : Heap) (k : Nat) (x : Str) (sp : SpG) : Prop where
  ex : ∃ (f : Addr) (fd : FuncData) (ps : List Str), GFn P w K mg base k f fd ps sp ∧ mg x = some (.ref f) ∧ PySem.W.keepIn K (.ref f) = true ∧ Binds K fd ps []
theorem calgen0 {P : Program} {w : World} {K : PySem.W.Frag} {mg : Str → Option Value} {base : Heap} {x : Str} {params : Arguments} {body : List Stmt} {scope : Scope} {f : Addr} {fd : FuncData} {N ps : List Str} {k : Nat} {sp : SpG} (F : FunD K x x params body scope [] [] f fd) (hm : mg x = some (.ref f)) (S : GScope N ps scope)
    (b : Binds K fd ps []) (len : ∀ vs H Q E, sp vs H Q E → vs.length = ps.length)
    (hbody : ∀ (cdv : Value) (A : Around) (outer : List Env) (s : Shared) (H : Hp) (vs : List V) (Q : List V → Hp → Prop) (E : XK) (pn : List (Addr × Obj)), Room k (A.deeper (envOfC x scope s.heap.objs.size f cdv)) → sp vs H Q E →
      ∃ t, GSs (gcxOf P w K mg base N x scope f cdv A outer s H E pn) body t ∧ t { nx := fun ys _ H' => Q ys H', rt := fun ys v H' => v = .non ∧ Q ys H' } [] (start N vs) H) : CalGen P w K mg base (k + 1) x sp := by
  have h := F.ex
  obtain ⟨oc, od, dV, kV, doc, pm, an, cdv, ct, osl, rfl, lk, hcd, _, _⟩ := h
  exact ⟨f, _, ps, gfn_of lk hcd S len fun A outer s H vs Q E pn hr hsp => hbody cdv A outer s H vs Q E pn hr hsp, hm, F.kp, b⟩
theorem passF : Passes (CX X.prog X.w) X (fun _ _ _ => False) := fun pins σ H s e s' I h => by
  obtain ⟨a, B, H', cls, d, _, _, _, _, _, _, _, h⟩ := h
  exact h.elim
/-- tuple(f(e, ..)) of a generator def -/
theorem pe_tupGc {sp : SpG} {e : Expr} {es : List Expr} {t : TA} {p2 pos2 : Pos} (c : CalGen X.prog X.w X.K X.mg X.base k x sp) (hr : Room j X.A) (hk : k + 4 ≤ j) (hg : Gl X x) (ha : PA X (e :: es) t) (hgt : Gl X "tuple") (hmt : X.mg "tuple" = none)
    (hdb : (x == ("__debug__" : Str)) = false := by decide) (he : starEach (e :: es) X.env = (false, eval e X.env) :: starEach es X.env := by rfl) (hpl : (backTo pos (starEach es X.env)).any (·.1) = false := by rfl)
    (he2 : starEach [Expr.Call (.Name x p) (e :: es) [] pos] X.env = (false, eval (.Call (.Name x p) (e :: es) [] pos) X.env) :: starEach [] X.env := by rfl) :
    PE X (.Call (.Name "tuple" p2) [.Call (.Name x p) (e :: es) [] pos] [] pos2) (tTupG fun σ H cont => t σ H fun vs H1 => sp vs H1 cont fun _ _ _ => False) := by
  obtain ⟨f, fd, ps, F, hm, kp, hb⟩ := c.ex
  have G := pgen_call (E := fun _ _ _ => False) (p := p) (pos' := pos) (dvs := []) (ds := []) F (hr.mono (by omega)) hg hm kp hb .nil ha hdb he hpl
  have T := pe_tupG (nm := "tuple") (p := p2) (pos := pos2) G passF (fun cls d H h => h.elim) (hr.mono hk) hgt hmt (by decide +kernel) (he := he2)
  refine ⟨fun pins s σ H Q I hq => T.run pins s σ H Q I ?_⟩
  show t σ H fun vs H1 => sp (vs ++ []) H1 _ _
  simp only [List.append_nil]
  exact hq
end
end L2

/-! Steps: all but the last, the last, joined tuples with an empty head, lists of tuples. -/
namespace L2
open PySem PySem.Spec PyProof.Rows SX TL
theorem sIx_m1 (n d : Nat) : HT.sIx (n + 1) d (some (-1)) = n := by
  show (if (-1 : Int) < 0 then ((-1 : Int) + ((n + 1 : Nat) : Int)).toNat else min (-1 : Int).toNat (n + 1)) = n
  rw [if_pos (by omega)]; omega
theorem cut_init (xs : List V) (x : V) : cutV (xs ++ [x]) none (some (-1)) = xs := by
  have hl : (xs ++ [x]).length = xs.length + 1 := by simp
  unfold cutV
  rw [hl, sIx_m1, HT.sIx_none, List.drop_zero, Nat.sub_zero]
  exact List.take_left
theorem SqT.sm {KF : PySem.W.Frag} {H H' : Hp} {a : Addr} {xs : List V} (h : SqT KF H a xs) (s : Same H H') : SqT KF H' a xs := h.elim (fun h => .inl (h.elim (fun h => .inl (s _ _ h)) fun ⟨o, h⟩ => .inr ⟨o, s _ _ h⟩)) .inr
section
variable [Lit] {H : Hp} {v x y : V} {Q : VK} {p : Addr} {ds es : List PyData} {d : PyData}
theorem t_init (h : TD H v (.tuple (ds ++ [d]))) (k : ∀ z H', Same H H' → TD H' z (.tuple ds) → Q z H') : rSlT K v none (some (-1)) H Q := by
  obtain ⟨a, xs, rfl, ha, t⟩ := h.tuple
  obtain ⟨ys, z, rfl, t1, t2⟩ := t.unsnoc
  have hl : (ys ++ [z]).length = ys.length + 1 := by simp
  refine ⟨a, _, rfl, ha, fun h => ?_, fun q hq => ?_⟩
  · rw [hl, sIx_m1] at h; omega
  · rw [cut_init]
    have s := same_upd (o := .tup ys) hq
    exact k _ _ s (.tup (.inl upd_same) (t1.tm (Tm.same s)))
theorem l_init (h : DL H p (ds ++ [d])) (k : ∀ q H', H q = none → Same H H' → DL H' q ds → Q (.ref q) H') : rSlL K (.ref p) none (some (-1)) H Q := by
  obtain ⟨xs, hp, t⟩ := h
  obtain ⟨ys, z, rfl, t1, t2⟩ := t.unsnoc
  refine ⟨p, _, rfl, SqL.of hp, fun q hq => ?_⟩
  rw [cut_init]
  have s := same_upd (o := .lst ys) hq
  exact k _ _ hq s ⟨ys, upd_same, t1.tm (Tm.same s)⟩
theorem t_ixLast (h : TD H v (.tuple (ds ++ [d]))) (k : ∀ x, TD H x d → Q x H) : rIxT K v (.int (-1)) H Q := by
  obtain ⟨a, xs, rfl, ha, t⟩ := h.tuple
  obtain ⟨ys, z, rfl, t1, t2⟩ := t.unsnoc
  exact ⟨a, _, _, _, rfl, rfl, ha, atI_last ys z, k z t2⟩
theorem l_ofT (h : TD H v (.tuple ds)) (k : ∀ q H', H q = none → Same H H' → DL H' q ds → Q (.ref q) H') : rLstQ K [v] H Q := by
  obtain ⟨a, xs, rfl, ha, t⟩ := h.tuple
  refine ⟨a, xs, rfl, .inr ha, fun q hq => ?_⟩
  have s := same_upd (o := .lst xs) hq
  exact k _ _ hq s ⟨xs, upd_same, t.tm (Tm.same s)⟩
theorem l_ofL (h : DL H p ds) (k : ∀ q H', H q = none → Same H H' → DL H' q ds → Q (.ref q) H') : rLstQ K [.ref p] H Q := by
  obtain ⟨xs, ha, t⟩ := h
  refine ⟨p, xs, rfl, .inl (SqL.of ha), fun q hq => ?_⟩
  have s := same_upd (o := .lst xs) hq
  exact k _ _ hq s ⟨xs, upd_same, t.tm (Tm.same s)⟩
theorem t_ofL (h : DL H p ds) (k : ∀ z H', Same H H' → TD H' z (.tuple ds) → Q z H') : rTupL K [.ref p] H Q := by
  obtain ⟨xs, ha, t⟩ := h
  refine ⟨p, xs, rfl, SqL.of ha, fun q hq => ?_⟩
  have s := same_upd (o := .tup xs) hq
  exact k _ _ s (.tup (.inl upd_same) (t.tm (Tm.same s)))
theorem t_catA (h1 : TD H x (.tuple ds)) (h2 : TD H y (.tuple es)) (k : ∀ z H', Same H H' → TD H' z (.tuple (ds ++ es)) → Q z H') (hz : ds.length + es.length ≤ 100000 := by omega) : rCatA K x y H Q := by
  obtain ⟨a, xs, rfl, ha, t1⟩ := h1.tuple
  obtain ⟨b, ys, rfl, hb, t2⟩ := h2.tuple
  have l1 := t1.len
  have l2 := t2.len
  refine ⟨a, b, xs, ys, rfl, rfl, ha, hb, Nat.le_trans (by omega) (show 100000 ≤ sizeLine by decide), fun z => ?_, fun _ z => ?_, fun _ _ p hp => ?_⟩
  · rw [z] at l1
    have : ds = [] := List.length_eq_zero_iff.mp l1.symm
    subst this
    exact k _ H (Same.refl H) h2
  · rw [z] at l2
    have : es = [] := List.length_eq_zero_iff.mp l2.symm
    subst this
    refine k _ H (Same.refl H) ?_
    rw [List.append_nil]; exact h1
  · have s := same_upd (o := .tup (xs ++ ys)) hp
    exact k _ _ s (.tup (.inl upd_same) ((t1.append t2).tm (Tm.same s)))
end
end L2

namespace K03
open PySem PySem.Spec PyProof.Rows L2 SX K02 K01
local macro_rules | `(tactic| walk_at "w1") => `(tactic| (first
  | with_reducible refine w_seq ?_ | with_reducible refine w_asgN ?_ | with_reducible refine w_c ?_
  | ((with_reducible refine' w_var ?wv ?_); (case wv => exact rfl))
  | with_reducible refine w_op ?_ | with_reducible refine w_un ?_ | with_reducible refine w_next ?_ | with_reducible refine w_brk ?_ | with_reducible refine w_cnt ?_
  | with_reducible refine w_ifS ?_ | with_reducible refine w_if ?_ | with_reducible refine w_test ?_ | with_reducible refine w_tB ?_ | with_reducible refine w_bl ?_ | with_reducible refine w_blI ?_
  | with_reducible refine w_and ?_ | with_reducible refine w_or ?_ | with_reducible refine w_not ?_ | with_reducible refine w_andV ?_ | with_reducible refine w_orV ?_ | with_reducible refine w_notV ?_
  | with_reducible refine w_nil ?_ | with_reducible refine w_cons ?_ | with_reducible refine w_cb ?_ | with_reducible refine w_call ?_ | with_reducible refine w_callS ?_ | with_reducible refine w_chain ?_
  | with_reducible refine w_tupN ?_ | with_reducible refine w_lstN ?_ | with_reducible refine w_sl ?_ | with_reducible refine w_noPart ?_ | with_reducible refine w_part ?_ | with_reducible refine w_partI ?_
  | with_reducible refine w_ret ?_ | with_reducible refine w_retN ?_ | with_reducible refine w_drop ?_ | with_reducible refine w_asg ?_ | with_reducible refine w_gSub ?_
  | ((with_reducible refine' w_aug ?wv ?_); (case wv => exact rfl)) | with_reducible refine w_ipI ?_
  | with_reducible refine w_addI ?_ | with_reducible refine w_subI ?_ | with_reducible refine w_ltI ?_ | with_reducible refine w_leI ?_ | with_reducible refine w_gtI ?_ | with_reducible refine w_geI ?_
  | with_reducible refine w_eqI ?_ | with_reducible refine w_neI ?_ | with_reducible refine w_eqT ?_ | with_reducible refine w_neT ?_ | with_reducible refine w_inS ?_ | with_reducible refine w_ninS ?_
  | with_reducible refine w_absI ?_ | with_reducible refine w_intI ?_ | with_reducible refine w_maxI ?_ | with_reducible refine w_minI ?_
  | with_reducible refine w_for ?_ | with_reducible refine w_iR1 ?_ | with_reducible refine w_iR2 ?_ | with_reducible refine w_iStr ?_ | with_reducible refine w_strI ?_ | with_reducible refine w_iList ?_ | with_reducible refine w_iTup ?_
  | with_reducible refine w_bm ?_ | with_reducible refine w_bm0 ?_ | with_reducible refine w_t ?_ | with_reducible refine w_f ?_ | with_reducible refine w_nt ?_ | with_reducible refine w_nx ?_ | with_reducible refine w_rt ?_ | with_reducible refine w_bk ?_ | with_reducible refine w_ct ?_ | with_reducible refine w_nf ?_ | with_reducible refine w_lc ?_ | with_reducible refine w_yes ?_ | with_reducible refine w_neg ?_ | with_reducible refine w_intB ?_ | with_reducible refine w_fld ?_ | with_reducible refine w_setf ?_ | with_reducible refine w_faug ?_ | with_reducible refine w_meth ?_ | with_reducible refine w_bmS ?_ | with_reducible refine w_start ?_ | with_reducible refine w_revL ?_ | with_reducible refine w_iR3 ?_))
local macro_rules | `(tactic| walk_at "w") => `(tactic| (repeat (first | walk_at "w1" | dsimp (config := { proj := false }) only [List.set_cons_zero, List.set_cons_succ])))
section
variable {w : World} [Lit] {mg : Str → Option Value} {base : Heap}
local macro_rules | `(tactic| walk_at "v1") => `(tactic| (first
  | with_reducible refine w_seq ?_ | with_reducible refine w_asgN ?_ | with_reducible refine w_c ?_
  | ((with_reducible refine' w_var ?wv ?_); (case wv => exact rfl))
  | with_reducible refine w_op ?_ | with_reducible refine w_un ?_ | with_reducible refine w_next ?_ | with_reducible refine w_brk ?_ | with_reducible refine w_cnt ?_
  | with_reducible refine w_ifS ?_ | with_reducible refine w_if ?_ | with_reducible refine w_test ?_ | with_reducible refine w_tB ?_ | with_reducible refine w_bl ?_ | with_reducible refine w_blI ?_
  | with_reducible refine w_and ?_ | with_reducible refine w_or ?_ | with_reducible refine w_not ?_ | with_reducible refine w_andV ?_ | with_reducible refine w_orV ?_ | with_reducible refine w_notV ?_
  | with_reducible refine w_nil ?_ | with_reducible refine w_cons ?_ | with_reducible refine w_cb ?_ | with_reducible refine w_call ?_ | with_reducible refine w_callS ?_ | with_reducible refine w_chain ?_
  | with_reducible refine w_sl ?_ | with_reducible refine w_noPart ?_ | with_reducible refine w_part ?_ | with_reducible refine w_partI ?_
  | with_reducible refine w_ret ?_ | with_reducible refine w_retN ?_ | with_reducible refine w_drop ?_ | with_reducible refine w_asg ?_ | with_reducible refine w_gSub ?_
  | ((with_reducible refine' w_aug ?wv ?_); (case wv => exact rfl)) | with_reducible refine w_ipI ?_
  | with_reducible refine w_addI ?_ | with_reducible refine w_subI ?_ | with_reducible refine w_ltI ?_ | with_reducible refine w_leI ?_ | with_reducible refine w_gtI ?_ | with_reducible refine w_geI ?_
  | with_reducible refine w_eqI ?_ | with_reducible refine w_neI ?_ | with_reducible refine w_eqT ?_ | with_reducible refine w_neT ?_ | with_reducible refine w_inS ?_ | with_reducible refine w_ninS ?_
  | with_reducible refine w_absI ?_ | with_reducible refine w_intI ?_ | with_reducible refine w_maxI ?_ | with_reducible refine w_minI ?_
  | with_reducible refine w_for ?_ | with_reducible refine w_iR1 ?_ | with_reducible refine w_iR2 ?_ | with_reducible refine w_iStr ?_ | with_reducible refine w_strI ?_ | with_reducible refine w_iList ?_ | with_reducible refine w_iTup ?_
  | with_reducible refine w_bm ?_ | with_reducible refine w_bm0 ?_ | with_reducible refine w_t ?_ | with_reducible refine w_f ?_ | with_reducible refine w_nt ?_ | with_reducible refine w_nx ?_ | with_reducible refine w_rt ?_ | with_reducible refine w_bk ?_ | with_reducible refine w_ct ?_ | with_reducible refine w_nf ?_ | with_reducible refine w_lc ?_ | with_reducible refine w_yes ?_ | with_reducible refine w_neg ?_ | with_reducible refine w_intB ?_ | with_reducible refine w_fld ?_ | with_reducible refine w_setf ?_ | with_reducible refine w_faug ?_ | with_reducible refine w_meth ?_ | with_reducible refine w_bmS ?_ | with_reducible refine w_start ?_ | with_reducible refine w_revL ?_ | with_reducible refine w_iR3 ?_))
local macro_rules | `(tactic| walk_at "v") => `(tactic| (repeat (first | walk_at "v1" | dsimp (config := { proj := false }) only [List.set_cons_zero, List.set_cons_succ])))
local macro_rules | `(tactic| walk_at "d") => `(tactic| (repeat (first | exact eva_nil | refine eva_cons ?_ ?_ | exact ev_str | exact ev_int | exact ev_neg | refine ev_tup ?_ | exact ev_var rfl (.str _) | exact ev_var rfl (.int _) | (refine ev_var rfl ?_; assumption))))


def sp_const : Sp := sp2 fun x y H Q _ => ∃ (w : List Nat) (k : Kd), x = .str (S w) ∧ TD H y k.d ∧ ∀ v H', Same H H' → TD H' v (Lf.cst w k).d → Q v H'
theorem ok_const (T : Txt w K mg) {fd : FuncData} (F : Fn_const K fd) (hm : mg "const" = some (.ref (He.ga K "const")))  : CalX P w K mg base CX0 1 "const" sp_const := by
  refine calx0 (k := 0) F hm sc_const (b_const F) (fun _ _ _ _ h => sp2_len h) (fun cdv A outer s H vs Q E hr h => ?_)
  obtain ⟨x0, x1, rfl, h⟩ := h
  refine ⟨_, (pss_one (ps_ret (pe_tup (pa_cons pe_str (pa_cons (pv 0) (pa_cons (pv 1) pa_nil)))))), ?_⟩
  rw [show start ["name", "kind"] [x0, x1] = [some x0, some x1] from rfl]
  have ec0 : Str.ofString "const" = S [99,111,110,115,116] := S_ofs (by decide +kernel)
  rw [ec0]
  obtain ⟨w, k, rfl, hk, hQ⟩ := h
  try dsimp only [cxOf]
  walk_at "v"
  exact ev_go (d := (Lf.cst w k).d) (ev_tup (eva_cons ev_str (eva_cons (ev_var rfl (.str _)) (eva_cons (ev_var rfl hk) eva_nil)))) hQ
def sp_kw (n : Nat) : Sp := sp2 fun x y H Q _ => ∃ (g : Gt) (ar : List Kd) (k : Kd), TD H x (upT g).d ∧ TD H y (arD ar) ∧ typed g ar = some k ∧ g.dep ≤ n ∧ ar.length + n ≤ 1000 ∧ ∀ v H', Same H H' → TD H' v k.d → Q v H'
theorem kw_step (T : Txt w K mg) {fd : FuncData} (F : Fn_kind_within K fd) (hm : mg "kind_within" = some (.ref (He.ga K "kind_within"))) (n : Nat) (c_kind_within : CalX P w K mg base CX0 (n + 1) "kind_within" (sp_kw n)) : CalX P w K mg base CX0 (n + 2) "kind_within" (sp_kw (n + 1)) := by
  refine calx0 (k := n + 1) F hm sc_kind_within (b_kind_within F) (fun _ _ _ _ h => sp2_len h) (fun cdv A outer s H vs Q E hr h => ?_)
  obtain ⟨x0, x1, rfl, h⟩ := h
  refine ⟨_, (pss_cons (ps_if (pt_cmpR op_eq (pe_ix ix_tup (pv 0) pe_int (fun _ _ => rfl)) pe_str (nomark _))
    (pss_one (ps_ret (pe_ix ix_tup (pe_cx c_kind_within hr (Nat.le_refl _) rfl pass0 (pa_cons (pe_ix ix_tup (pv 0) pe_int (fun _ _ => rfl)) (pa_cons (pv 1) pa_nil))) pe_int (fun _ _ => rfl))))
    pss_nil)
    (pss_cons (ps_if (pt_cmpR op_eq (pe_ix ix_tup (pv 0) pe_int (fun _ _ => rfl)) pe_str (nomark _))
    (pss_one (ps_ret (pe_tup (pa_cons pe_str (pa_cons (pe_ix ix_tup (pv 0) pe_int (fun _ _ => rfl)) (pa_cons (pe_cx c_kind_within hr (Nat.le_refl _) rfl pass0 (pa_cons (pe_ix ix_tup (pv 0) pe_int (fun _ _ => rfl)) (pa_cons (pe_op op_catT (pe_tup (pa_cons (pe_ix ix_tup (pv 0) pe_int (fun _ _ => rfl)) pa_nil)) (pv 1)) pa_nil))) pa_nil))))))
    pss_nil)
    (pss_cons (ps_if (pt_cmpR op_eq (pe_ix ix_tup (pv 0) pe_int (fun _ _ => rfl)) pe_str (nomark _))
    (pss_one (ps_ret (pe_ix ix_tup (pv 1) (pe_ix ix_tup (pv 0) pe_int (fun _ _ => rfl)) (fun _ _ => rfl))))
    pss_nil)
    (pss_one (ps_ret (pe_ix ix_tup (pv 0) pe_int (fun _ _ => rfl))))))), ?_⟩
  rw [show start ["part", "around"] [x0, x1] = [some x0, some x1] from rfl]
  have ec0 : Str.ofString "app" = S [97,112,112] := S_ofs (by decide +kernel)
  have ec1 : Str.ofString "lam" = S [108,97,109] := S_ofs (by decide +kernel)
  have ec2 : Str.ofString "bound" = S [98,111,117,110,100] := S_ofs (by decide +kernel)
  have ec3 : Str.ofString "to" = S [116,111] := S_ofs (by decide +kernel)
  rw [ec0, ec1, ec2, ec3]
  obtain ⟨g, ar, k, hx, hy, ht, hn, hl, hQ⟩ := h
  try dsimp only [cxOf]
  walk_at "v"
  cases g with
  | app f a =>
    have hx : TD H x0 (.tuple [.str (S wAPP), (upT f).d, (upT a).d]) := hx
    have hdp : max f.dep a.dep + 1 ≤ n + 1 := hn
    refine t_ixS (n := 0) hx rfl ?_
    walk_at "v"
    rw [show decide (wAPP = [97, 112, 112]) = true from by decide]
    walk_at "v"
    refine t_ix (n := 1) hx rfl (fun y1 ty1 => ?_)
    walk_at "v"
    obtain ⟨z, hz⟩ : ∃ z, typed f ar = some (.to z k) := by
      unfold typed at ht
      split at ht
      · rename_i x y z e1 e2
        split at ht
        · cases ht; exact ⟨_, e1⟩
        · cases ht
      · cases ht
    refine ⟨_, _, rfl, f, ar, .to z k, ty1, hy, hz, by omega, by omega, fun v1 H1 s1 t1 => ?_⟩
    have t1 : TD H1 v1 (.tuple [.str (S wTO), z.d, k.d]) := t1
    refine t_ix (n := 2) t1 rfl (fun v2 t2 => ?_)
    exact hQ v2 H1 s1 t2
  | lam j b =>
    have hx : TD H x0 (.tuple [.str (S wLAM), j.d, (upT b).d]) := hx
    have hdp : b.dep + 1 ≤ n + 1 := hn
    refine t_ixS (n := 0) hx rfl ?_
    walk_at "v"
    rw [show decide (wLAM = [97, 112, 112]) = false from by decide]
    walk_at "v"
    refine t_ixS (n := 0) hx rfl ?_
    walk_at "v"
    rw [show decide (wLAM = [108, 97, 109]) = true from by decide]
    walk_at "v"
    obtain ⟨kb, hkb, rfl⟩ : ∃ kb, typed b (j :: ar) = some kb ∧ k = .to j kb := by
      unfold typed at ht
      split at ht
      · rename_i x e1; cases ht; exact ⟨_, e1, rfl⟩
      · cases ht
    refine w_tupN ?_
    walk_at "v"
    refine t_ix (n := 1) hx rfl (fun y1 ty1 => ?_)
    walk_at "v"
    refine t_ix (n := 2) hx rfl (fun y2 ty2 => ?_)
    walk_at "v"
    refine w_tupN ?_
    walk_at "v"
    refine t_ix (n := 1) hx rfl (fun y3 ty3 => ?_)
    walk_at "v"
    refine t_new (ds := [j.d]) (.cons ty3 .nil) (fun p3 H3 hp3 s3 t3 => ?_)
    walk_at "v"
    refine t_cat t3 (hy.tm (Tm.same s3)) (by simp) (fun z4 H4 s4 t4 => ?_) (by rw [List.length_map]; show 1 + ar.length ≤ 100000; omega)
    walk_at "v"
    have s34 := s3.tr s4
    refine ⟨_, _, rfl, b, j :: ar, kb, ty2.tm (Tm.same s34), t4, hkb, by omega, by rw [List.length_cons]; omega, fun v1 H1 s1 t1 => ?_⟩
    walk_at "v"
    refine t_new (ds := [.str (S wTO), j.d, kb.d]) (.cons (.str _) (.cons (ty1.tm (Tm.same (s34.tr s1))) (.cons t1 .nil))) (fun p5 H5 hp5 s5 t5 => ?_)
    exact hQ _ H5 ((s34.tr s1).tr s5) t5
  | tip x =>
    obtain ⟨rest, ed⟩ := gw_d (.tip x)
    have m12 := gw_tip x
    have hx' : TD H x0 (.tuple (.str (S (gw (.tip x))) :: rest)) := by rw [← ed]; exact hx
    refine t_ixS (n := 0) hx' rfl ?_
    walk_at "v"
    rw [show decide (gw (.tip x) = [97, 112, 112]) = false from decide_eq_false m12.1]
    walk_at "v"
    refine t_ixS (n := 0) hx' rfl ?_
    walk_at "v"
    rw [show decide (gw (.tip x) = [108, 97, 109]) = false from decide_eq_false m12.2]
    walk_at "v"
    refine t_ixS (n := 0) hx' rfl ?_
    walk_at "v"
    cases x with
    | bnd i =>
      rw [show decide (gw (.tip (.bnd i)) = [98, 111, 117, 110, 100]) = true from (show decide (wBOUND = [98, 111, 117, 110, 100]) = true by decide)]
      walk_at "v"
      have hx2 : TD H x0 (.tuple [.str (S wBOUND), .int (i : Int)]) := hx
      have ht : ar[i]? = some k := ht
      refine t_ixI (n := 1) hx2 rfl ?_
      refine t_ix (n := i) hy (by rw [List.getElem?_map, ht]; rfl) (fun y2 ty2 => ?_)
      exact hQ y2 H (Same.refl' H) ty2
    | var w' k' =>
      rw [show decide (gw (.tip (.var w' k')) = [98, 111, 117, 110, 100]) = false from (show decide (wVAR = [98, 111, 117, 110, 100]) = false by decide)]
      walk_at "v"
      have hx2 : TD H x0 (.tuple [.str (S wVAR), .str (S w'), k'.d]) := hx
      have ht : some k' = some k := ht
      cases ht
      refine t_ix (n := 2) hx2 rfl (fun y2 ty2 => ?_)
      exact hQ y2 H (Same.refl' H) ty2
    | cst w' k' =>
      rw [show decide (gw (.tip (.cst w' k')) = [98, 111, 117, 110, 100]) = false from (show decide (wCONST = [98, 111, 117, 110, 100]) = false by decide)]
      walk_at "v"
      have hx2 : TD H x0 (.tuple [.str (S wCONST), .str (S w'), k'.d]) := hx
      have ht : some k' = some k := ht
      cases ht
      refine t_ix (n := 2) hx2 rfl (fun y2 ty2 => ?_)
      exact hQ y2 H (Same.refl' H) ty2


theorem kw_all (T : Txt w K mg) {fd : FuncData} (F : Fn_kind_within K fd) (hm : mg "kind_within" = some (.ref (He.ga K "kind_within"))) : ∀ n, CalX P w K mg base CX0 (n + 1) "kind_within" (sp_kw n)
  | 0 => calx0 (k := 0) F hm sc_kind_within (b_kind_within F) (fun _ _ _ _ h => sp2_len h) (fun cdv A outer s H vs Q E hr h => by
      obtain ⟨x0, x1, rfl, g, _, _, _, _, _, hn, _⟩ := h
      have := g.dep_pos
      omega)
  | n + 1 => kw_step T F hm n (kw_all T F hm n)

def sp_app0 : Sp := sp2 fun x y H Q _ => ∃ (g : Gt) (gs : List Gt), TD H x (upT g).d ∧ TD H y (.tuple (trs gs)) ∧ ∀ u H', Same H H' → TD H' u (upT (gs.foldl Tr.app g)).d → Q u H'
def sp_appR : Sp := fun vs H Q _ => ∃ (g : Gt) (gs : List Gt) (v : V) (rest : List V), vs = v :: rest ∧ TD H v (upT g).d ∧ TDs H rest (trs gs) ∧ gs.length ≤ 100 ∧ ∀ u H', Same H H' → TD H' u (upT (gs.foldl Tr.app g)).d → Q u H'
theorem sc2_app : FnScope ["function", "arguments", "term", "argument"] ["function", "arguments"] (defScope s_app) := ⟨rfl, rfl, rfl, by decide +kernel, rfl, by decide +kernel, by decide +kernel⟩
theorem ok_app (T : Txt w K mg) {fd : FuncData} (F : Fn_app K fd) (hm : mg "app" = some (.ref (He.ga K "app")))  : CalR P w K mg base CX0 1 "app" (sp_appR) := by
  refine CalR.imp (calrS (ps := ["function"]) (pv := "arguments") (k := 0) (sp := sp_app0) F hm sc2_app (fun kV doc pm an cdv ct us rest hl => match us, rest, hl with | [_], [], _ => by kernel_rfl | [_], r :: rs, _ => by kernel_rfl) (fun cdv A outer s H vs Q E hr h => ?_)) (fun vs H Q E ⟨g, gs, v, rest, e, hv, hr, hl, hQ⟩ => ⟨[v], rest, e, rfl, by rw [hr.len]; unfold trs; rw [List.length_map]; omega, fun p H' hp s e => ⟨_, _, rfl, g, gs, hv.tm (Tm.same s), .tup (.inl e) (hr.tm (Tm.same s)), fun u H2 s2 t2 => hQ u H2 (s.tr s2) t2⟩⟩)
  obtain ⟨x0, x1, rfl, h⟩ := h
  refine ⟨_, (pss_cons (ps_set (i := 2) sc_app.nd rfl (Or.inl rfl) (pv 0))
    (pss_cons (ps_for PassesOwn.never rfl (pi_tup (pv 1)) (pg_name (i := 3) sc_app.nd rfl (Or.inl rfl))
    (pss_one (ps_set (i := 2) sc_app.nd rfl (Or.inl rfl) (pe_tup (pa_cons pe_str (pa_cons (pv 2) (pa_cons (pv 3) pa_nil)))))))
    (pss_one (ps_ret (pv 2))))), ?_⟩
  rw [show start ["function", "arguments", "term", "argument"] [x0, x1] = [some x0, some x1, none, none] from rfl]
  have ec0 : Str.ofString "app" = S [97,112,112] := S_ofs (by decide +kernel)
  rw [ec0]
  obtain ⟨g, gs, hx, hy, hQ⟩ := h
  try dsimp only [cxOf]
  walk_at "v"
  obtain ⟨ya, xs, rfl, hya, txs⟩ := hy.tuple
  have lx : xs.length = gs.length := by rw [txs.len]; unfold trs; rw [List.length_map]
  refine w_tupI (hya) ?_
  refine for_tup (xs := xs) (fun i σ H' => ∃ (u : V) (v3 : Option V), σ = [some x0, some (.ref ya), some u, v3] ∧ Same H H' ∧ TD H' u (upT ((gs.take i).foldl Tr.app g)).d)
    ⟨x0, _, rfl, Same.refl' _, hx⟩ (fun i σ H' _ h => by obtain ⟨_, _, _, h, _⟩ := h; exact SqT.sm hya h) ?_ ?_
  · rintro i y σ G hi ⟨u, v3, rfl, sg, tu⟩
    obtain ⟨d, ed, td⟩ := (txs.tm (Tm.same sg)).get' hi
    have hil : i < gs.length := by rw [← lx]; exact (List.getElem?_eq_some_iff.mp hi).1
    have ei := List.getElem?_eq_getElem hil
    generalize gs[i] = r at ei
    have edr : d = (upT r).d := by
      unfold trs at ed
      rw [List.getElem?_map, ei] at ed
      exact (Option.some.inj ed).symm
    subst edr
    dsimp only [gName]
    walk_at "v"
    refine ev_go (d := (upT (.app ((gs.take i).foldl Tr.app g) r)).d) (by show Ev _ _ _ (.tuple [.str (S wAPP), (upT ((gs.take i).foldl Tr.app g)).d, (upT r).d]); walk_at "d") (fun z G1 s1 t1 => ?_)
    walk_at "v"
    refine ⟨z, _, rfl, sg.tr s1, ?_⟩
    rw [List.take_add_one, ei, List.foldl_append]; exact t1
  · rintro σ G ⟨u, v3, rfl, sg, tu⟩
    rw [lx, List.take_length] at tu
    walk_at "v"
    exact hQ u G sg tu

/-- a kind of a function of these -/
def fkT (ks : List Kd) (r : Kd) : Kd := ks.foldr Kd.to r
def sp_fk0 : Sp := sp1 fun x H Q _ => ∃ (ks : List Kd) (r : Kd), TD H x (.tuple ((ks ++ [r]).map Kd.d)) ∧ ks.length ≤ 100 ∧ ∀ u H', Same H H' → TD H' u (fkT ks r).d → Q u H'
def sp_fkR : Sp := fun vs H Q _ => ∃ (ks : List Kd) (r : Kd), TDs H vs ((ks ++ [r]).map Kd.d) ∧ ks.length ≤ 100 ∧ ∀ u H', Same H H' → TD H' u (fkT ks r).d → Q u H'
theorem fkT_drop (ks : List Kd) (r : Kd) {i : Nat} {k : Kd} (e : ks[i]? = some k) : Kd.to k (fkT (ks.drop (i + 1)) r) = fkT (ks.drop i) r := by
  rw [drop_eq e]; rfl
theorem sc2_fun_kind : FnScope ["kinds", "result", "argument"] ["kinds"] (defScope s_fun_kind) := ⟨rfl, rfl, rfl, by decide +kernel, rfl, by decide +kernel, by decide +kernel⟩
theorem ok_fun_kind (T : Txt w K mg) {fd : FuncData} (F : Fn_fun_kind K fd) (hm : mg "fun_kind" = some (.ref (He.ga K "fun_kind")))  : CalR P w K mg base CX0 1 "fun_kind" (sp_fkR) := by
  refine CalR.imp (calrS (ps := []) (pv := "kinds") (k := 0) (sp := sp_fk0) F hm sc2_fun_kind (fun kV doc pm an cdv ct us rest hl => match us, rest, hl with | [], [], _ => by kernel_rfl | [], r :: rs, _ => by kernel_rfl) (fun cdv A outer s H vs Q E hr h => ?_)) (fun vs H Q E ⟨ks, r, hv, hl, hQ⟩ => ⟨[], vs, rfl, rfl, by rw [hv.len, List.length_map, List.length_append]; show ks.length + 1 ≤ 4096; omega, fun p H' hp s e => ⟨_, rfl, ks, r, .tup (.inl e) (hv.tm (Tm.same s)), hl, fun u H2 s2 t2 => hQ u H2 (s.tr s2) t2⟩⟩)
  obtain ⟨x0, rfl, h⟩ := h
  refine ⟨_, (pss_cons (ps_set (i := 1) sc_fun_kind.nd rfl (Or.inl rfl) (pe_ix ix_tup (pv 0) (pe_un un_neg pe_int) (fun _ _ => rfl)))
    (pss_cons (ps_for PassesOwn.never rfl (pi_reversed (by rfl) T.f_reversed (pa_cons (pe_callTy call_lstQ (by rfl) T.f_list (by decide +kernel) (pa_cons (pe_slice sl_tup (pv 0) po_none (po_some (pe_un un_neg pe_int))) pa_nil)) pa_nil)) (pg_name (i := 2) sc_fun_kind.nd rfl (Or.inl rfl))
    (pss_one (ps_set (i := 1) sc_fun_kind.nd rfl (Or.inl rfl) (pe_tup (pa_cons pe_str (pa_cons (pv 2) (pa_cons (pv 1) pa_nil)))))))
    (pss_one (ps_ret (pv 1))))), ?_⟩
  rw [show start ["kinds", "result", "argument"] [x0] = [some x0, none, none] from rfl]
  have ec0 : Str.ofString "to" = S [116,111] := S_ofs (by decide +kernel)
  rw [ec0]
  obtain ⟨ks, r, hx, hl, hQ⟩ := h
  rw [List.map_append, List.map_cons, List.map_nil] at hx
  try dsimp only [cxOf]
  walk_at "v"
  refine t_ixLast hx (fun y1 ty1 => ?_)
  walk_at "v"
  refine w_iRev ?_
  walk_at "v"
  refine t_init hx (fun z2 H2 s2 t2 => ?_)
  walk_at "v"
  refine l_ofT t2 (fun q H3 hq s3 d3 => ?_)
  walk_at "v"
  obtain ⟨xs, eq, tq⟩ := d3
  have lx : xs.length = ks.length := by rw [tq.len, List.length_map]
  refine ⟨q, xs, rfl, SqL.of eq, ?_⟩
  refine for_rev (xs := xs) (fun i σ H' => ∃ (u : V) (v2 : Option V), σ = [some x0, some u, v2] ∧ Same H3 H' ∧ TD H' u (fkT (ks.drop (ks.length - i)) r).d)
    ⟨y1, _, rfl, Same.refl' _, by rw [Nat.sub_zero, List.drop_length]; exact ty1.tm (Tm.same (s2.tr s3))⟩ (fun i σ H' _ h => by obtain ⟨_, _, _, h, _⟩ := h; exact SqL.of (h _ _ eq)) ?_ ?_
  · rintro i x σ G hx2 hi ⟨u, v2, rfl, sg, tu⟩
    obtain ⟨d, ed, td⟩ := (tq.tm (Tm.same sg)).get' hx2
    have hlt : ks.length - (i + 1) < ks.length := by omega
    have ei := List.getElem?_eq_getElem hlt
    generalize ks[ks.length - (i + 1)] = k at ei
    rw [show xs.length - 1 - i = ks.length - (i + 1) by omega, List.getElem?_map, ei] at ed
    have ed : k.d = d := Option.some.inj ed
    subst ed
    dsimp only [gName]
    walk_at "v"
    refine ev_go (d := (Kd.to k (fkT (ks.drop (ks.length - i)) r)).d) (by show Ev _ _ _ (.tuple [.str (S wTO), k.d, (fkT (ks.drop (ks.length - i)) r).d]); walk_at "d") (fun z G1 s1 t1 => ?_)
    walk_at "v"
    refine ⟨z, _, rfl, sg.tr s1, ?_⟩
    rw [show ks.length - i = ks.length - (i + 1) + 1 by omega, fkT_drop ks r ei] at t1
    exact t1
  · rintro σ G ⟨u, v2, rfl, sg, tu⟩
    rw [lx, Nat.sub_self, List.drop_zero] at tu
    walk_at "v"
    exact hQ u G ((s2.tr s3).tr sg) tu

def sp_child : Sp := sp2 fun x y H Q _ => ∃ (g g' : Gt) (n : Nat), TD H x (upT g).d ∧ y = .int (n : Int) ∧ stT g n = some g' ∧ ∀ v, TD H v (upT g').d → Q v H
theorem ok_child (T : Txt w K mg) {fd : FuncData} (F : Fn_child K fd) (hm : mg "_child" = some (.ref (He.ga K "_child")))  : CalX P w K mg base CX0 1 "_child" sp_child := by
  refine calx0 (k := 0) F hm sc_child (b_child F) (fun _ _ _ _ h => sp2_len h) (fun cdv A outer s H vs Q E hr h => ?_)
  obtain ⟨x0, x1, rfl, h⟩ := h
  refine ⟨_, (pss_cons (ps_if (pt_cmpR op_eq (pe_ix ix_tup (pv 0) pe_int (fun _ _ => rfl)) pe_str (nomark _))
    (pss_one (ps_ret (pe_ix ix_tup (pv 0) pe_int (fun _ _ => rfl))))
    pss_nil)
    (pss_one (ps_ret (pe_ix ix_tup (pv 0) (pe_op op_addI pe_int (pv 1)) (fun _ _ => rfl))))), ?_⟩
  rw [show start ["part", "step"] [x0, x1] = [some x0, some x1] from rfl]
  have ec0 : Str.ofString "lam" = S [108,97,109] := S_ofs (by decide +kernel)
  rw [ec0]
  obtain ⟨g, g', n, hx, rfl, ha, hQ⟩ := h
  try dsimp only [cxOf]
  walk_at "v"
  cases g with
  | app f a =>
    have hx : TD H x0 (.tuple [.str (S wAPP), (upT f).d, (upT a).d]) := hx
    refine t_ixS (n := 0) hx rfl ?_
    walk_at "v"
    rw [show decide (wAPP = [108, 97, 109]) = false from by decide]
    walk_at "v"
    match n, ha with
    | 0, ha =>
      cases ha
      exact t_ix (n := 1) hx rfl (fun y ty => hQ y ty)
    | 1, ha =>
      cases ha
      exact t_ix (n := 2) hx rfl (fun y ty => hQ y ty)
    | n + 2, ha => cases ha
  | lam j b =>
    have hx : TD H x0 (.tuple [.str (S wLAM), j.d, (upT b).d]) := hx
    refine t_ixS (n := 0) hx rfl ?_
    walk_at "v"
    rw [show decide (wLAM = [108, 97, 109]) = true from by decide]
    walk_at "v"
    match n, ha with
    | 0, ha =>
      cases ha
      exact t_ix (n := 2) hx rfl (fun y ty => hQ y ty)
    | n + 1, ha => cases ha
  | tip x => cases n <;> cases ha

def sp_part_at : Sp := sp2 fun x y H Q _ => ∃ (g s : Gt) (p : List Nat), TD H x (upT g).d ∧ TD H y (plD p) ∧ atT g p = some s ∧ ∀ v, TD H v (upT s).d → Q v H
theorem ok_part_at (T : Txt w K mg) {fd : FuncData} (F : Fn_part_at K fd) (hm : mg "part_at" = some (.ref (He.ga K "part_at"))) (c_child : CalX P w K mg base CX0 1 "_child" sp_child) : CalX P w K mg base CX0 2 "part_at" sp_part_at := by
  refine calx0 (k := 1) F hm sc_part_at (b_part_at F) (fun _ _ _ _ h => sp2_len h) (fun cdv A outer s H vs Q E hr h => ?_)
  obtain ⟨x0, x1, rfl, h⟩ := h
  refine ⟨_, (pss_cons (ps_set (i := 2) sc_part_at.nd rfl (Or.inl rfl) (pv 0))
    (pss_cons (ps_for PassesOwn.never rfl (pi_tup (pv 1)) (pg_name (i := 3) sc_part_at.nd rfl (Or.inl rfl))
    (pss_one (ps_set (i := 2) sc_part_at.nd rfl (Or.inl rfl) (pe_cx c_child hr (by decide) rfl pass0 (pa_cons (pv 2) (pa_cons (pv 3) pa_nil))))))
    (pss_one (ps_ret (pv 2))))), ?_⟩
  rw [show start ["term", "place", "part", "step"] [x0, x1] = [some x0, some x1, none, none] from rfl]
  obtain ⟨g, s, p, hx, hy, hs, hQ⟩ := h
  try dsimp only [cxOf]
  walk_at "v"
  obtain ⟨ya, xs, rfl, hya, txs⟩ := hy.tuple
  have lx : xs.length = p.length := by rw [txs.len, List.length_map]
  refine w_tupI hya ?_
  refine for_tup (xs := xs) (fun i σ H' => H' = H ∧ ∃ (u : V) (v3 : Option V) (r : Gt), σ = [some x0, some (.ref ya), some u, v3] ∧ atT g (p.take i) = some r ∧ TD H u (upT r).d)
    ⟨rfl, x0, _, g, rfl, rfl, hx⟩ (fun i σ H' _ h => by obtain ⟨rfl, _⟩ := h; exact hya) ?_ ?_
  · rintro i y σ G hi ⟨rfl, u, v3, r, rfl, er, tu⟩
    obtain ⟨d, ed, td⟩ := txs.get' hi
    have hil : i < p.length := by rw [← lx]; exact (List.getElem?_eq_some_iff.mp hi).1
    have ei := List.getElem?_eq_getElem hil
    generalize p[i] = n at ei
    rw [List.getElem?_map, ei] at ed
    have ed : PyData.int (n : Int) = d := Option.some.inj ed
    subst ed
    rw [td.num]
    obtain ⟨s', es', es2⟩ : ∃ s', stT r n = some s' ∧ atT g (p.take (i + 1)) = some s' := by
      have h1 : p.take (i + 1) = p.take i ++ [n] := by rw [List.take_add_one, ei]; rfl
      have h2 := atT_snoc (p.take i) g n
      rw [er] at h2
      have h2 : atT g (p.take i ++ [n]) = stT r n := h2
      have h4 : p = p.take i ++ [n] ++ p.drop (i + 1) := by rw [← h1, List.take_append_drop]
      obtain ⟨s', e⟩ := atT_pre (p.take i ++ [n]) (p.drop (i + 1)) g (by rw [← h4]; exact hs)
      exact ⟨s', by rw [← h2]; exact e, by rw [h1]; exact e⟩
    dsimp only [gName]
    walk_at "v"
    refine ⟨_, _, rfl, r, s', n, tu, rfl, es', fun v tv => ?_⟩
    walk_at "v"
    exact ⟨rfl, v, _, s', rfl, es2, tv⟩
  · rintro σ G ⟨rfl, u, v3, r, rfl, er, tu⟩
    rw [lx, List.take_length, hs] at er
    cases er
    walk_at "v"
    exact hQ u tu
end
end K03

/-! Walks over a dict's keys. -/
namespace L2
open PySem PySem.Spec PyProof.Rows SX TL
section
variable {σ : St} {H : Hp} {Q : VK} {td : TE} {a d : Addr} {kvs : List (Key × V)} {k : Key} {v y : V} {D : Ends} {t : TS} {o : Obj} {R : It → Hp → Prop}
theorem k_getR {R : V → Prop} (e : Rd H a (.dK kvs)) (l : valV kvs k = some v) (h : R v) (hy : y = kV k := by rfl) : ∃ a' v', V.ref a = .ref a' ∧ DGet H a' y (some v') ∧ R v' := ⟨a, v, rfl, .inl ⟨kvs, k, e, hy, l.symm⟩, h⟩
theorem w_lock (e : H d = some (.dK kvs)) (h : ∀ od, t ⟨fun σ' H' => H' d = some (.frz od (.dK kvs)) ∧ D.nx σ' (upd H' d (.dK kvs)), fun v H' => H' d = some (.frz od (.dK kvs)) ∧ D.rt v (upd H' d (.dK kvs)), fun σ' H' => H' d = some (.frz od (.dK kvs)) ∧ D.bk σ' (upd H' d (.dK kvs)), fun σ' H' => H' d = some (.frz od (.dK kvs)) ∧ D.ct σ' (upd H' d (.dK kvs))⟩ σ (upd H d (.frz od (.dK kvs)))) : tLock t D σ H :=
  ⟨d, _, e, trivial, h⟩
theorem w_iKeys (h : td σ H fun x H1 => ∃ d o, x = .ref d ∧ ((∃ kvs, H1 d = some (.frz o (.dK kvs)) ∧ R (Itk d o kvs) H1) ∨ ∃ kvs, H1 d = some (.frz o (.dT kvs)) ∧ R (Itkt d o kvs) H1)) : iKeys td σ H R := h
theorem for_keys {g : TG} {tb : TS} (Pv : Nat → St → Hp → Prop) (h0 : Pv 0 σ H) (hl : ∀ i σ H, Pv i σ H → H d = some (.frz o (.dK kvs)))
    (hs : ∀ i k v σ H, kvs[i]? = some (k, v) → Pv i σ H → g (kV k) σ H fun σ2 H2 => tb { D with nx := Pv (i + 1), ct := Pv (i + 1), bk := D.nx } σ2 H2) (hd : ∀ σ H, Pv kvs.length σ H → D.nx σ H) :
    ∃ W : Nat → Nat → St → Hp → Prop, (∃ m, W 0 m σ H) ∧ ∀ i m σ H, W i m σ H →
      ((Itk d o kvs).stop i H ∧ D.nx σ H) ∨ ((Itk d o kvs).go i H ∧ ∃ N : St → Hp → Prop, (∀ σ' H', N σ' H' → ∃ m', m' < m ∧ W (i + 1) m' σ' H') ∧ ∀ x H', (Itk d o kvs).yld i H x H' → g x σ H' fun σ2 H2 => tb { D with nx := N, ct := N, bk := D.nx } σ2 H2) := by
  refine ⟨fun i m σ H => m = kvs.length - i ∧ i ≤ kvs.length ∧ Pv i σ H, ⟨kvs.length, by simp, Nat.zero_le _, h0⟩, ?_⟩
  rintro i m σ H ⟨rfl, hi, p⟩
  by_cases hlt : i < kvs.length
  · refine .inr ⟨⟨hl i σ H p, hlt⟩, Pv (i + 1), fun σ' H' p' => ⟨kvs.length - (i + 1), by omega, rfl, hlt, p'⟩, fun x H' y => ?_⟩
    obtain ⟨e, k, v, hk, rfl⟩ := y
    subst e
    exact hs i k v σ _ hk p
  · have e : i = kvs.length := by omega
    subst e
    exact .inl ⟨⟨hl _ σ H p, Nat.le_refl _⟩, hd σ H p⟩
theorem valV_mem {κ : Type} [DecidableEq κ] {kvs : List (κ × V)} {k : κ} : (∃ v, valV kvs k = some v) ↔ k ∈ kvs.map (·.1) := by
  have h := valV_any k kvs
  constructor
  · rintro ⟨v, e⟩
    rw [e] at h
    obtain ⟨p, hp, e2⟩ := List.any_eq_true.mp h
    exact List.mem_map.mpr ⟨p, hp, of_decide_eq_true e2⟩
  · intro hm
    obtain ⟨p, hp, e⟩ := List.mem_map.mp hm
    have : (kvs.any fun kv => decide (kv.1 = k)) = true := List.any_eq_true.mpr ⟨p, hp, decide_eq_true e⟩
    rw [h] at this
    cases z : valV kvs k with
    | none => rw [z] at this; cases this
    | some v => exact ⟨v, rfl⟩
end
end L2

namespace K03
open PySem PySem.Spec PyProof.Rows L2 SX K02 K01
local macro_rules | `(tactic| walk_at "w1") => `(tactic| (first
  | with_reducible refine w_seq ?_ | with_reducible refine w_asgN ?_ | with_reducible refine w_c ?_
  | ((with_reducible refine' w_var ?wv ?_); (case wv => exact rfl))
  | with_reducible refine w_op ?_ | with_reducible refine w_un ?_ | with_reducible refine w_next ?_ | with_reducible refine w_brk ?_ | with_reducible refine w_cnt ?_
  | with_reducible refine w_ifS ?_ | with_reducible refine w_if ?_ | with_reducible refine w_test ?_ | with_reducible refine w_tB ?_ | with_reducible refine w_bl ?_ | with_reducible refine w_blI ?_
  | with_reducible refine w_and ?_ | with_reducible refine w_or ?_ | with_reducible refine w_not ?_ | with_reducible refine w_andV ?_ | with_reducible refine w_orV ?_ | with_reducible refine w_notV ?_
  | with_reducible refine w_nil ?_ | with_reducible refine w_cons ?_ | with_reducible refine w_cb ?_ | with_reducible refine w_call ?_ | with_reducible refine w_callS ?_ | with_reducible refine w_chain ?_
  | with_reducible refine w_tupN ?_ | with_reducible refine w_lstN ?_ | with_reducible refine w_sl ?_ | with_reducible refine w_noPart ?_ | with_reducible refine w_part ?_ | with_reducible refine w_partI ?_
  | with_reducible refine w_ret ?_ | with_reducible refine w_retN ?_ | with_reducible refine w_drop ?_ | with_reducible refine w_asg ?_ | with_reducible refine w_gSub ?_
  | ((with_reducible refine' w_aug ?wv ?_); (case wv => exact rfl)) | with_reducible refine w_ipI ?_
  | with_reducible refine w_addI ?_ | with_reducible refine w_subI ?_ | with_reducible refine w_ltI ?_ | with_reducible refine w_leI ?_ | with_reducible refine w_gtI ?_ | with_reducible refine w_geI ?_
  | with_reducible refine w_eqI ?_ | with_reducible refine w_neI ?_ | with_reducible refine w_eqT ?_ | with_reducible refine w_neT ?_ | with_reducible refine w_inS ?_ | with_reducible refine w_ninS ?_
  | with_reducible refine w_absI ?_ | with_reducible refine w_intI ?_ | with_reducible refine w_maxI ?_ | with_reducible refine w_minI ?_
  | with_reducible refine w_for ?_ | with_reducible refine w_iR1 ?_ | with_reducible refine w_iR2 ?_ | with_reducible refine w_iStr ?_ | with_reducible refine w_strI ?_ | with_reducible refine w_iList ?_ | with_reducible refine w_iTup ?_
  | with_reducible refine w_bm ?_ | with_reducible refine w_bm0 ?_ | with_reducible refine w_t ?_ | with_reducible refine w_f ?_ | with_reducible refine w_nt ?_ | with_reducible refine w_nx ?_ | with_reducible refine w_rt ?_ | with_reducible refine w_bk ?_ | with_reducible refine w_ct ?_ | with_reducible refine w_nf ?_ | with_reducible refine w_lc ?_ | with_reducible refine w_yes ?_ | with_reducible refine w_neg ?_ | with_reducible refine w_intB ?_ | with_reducible refine w_fld ?_ | with_reducible refine w_setf ?_ | with_reducible refine w_faug ?_ | with_reducible refine w_meth ?_ | with_reducible refine w_bmS ?_ | with_reducible refine w_start ?_ | with_reducible refine w_revL ?_ | with_reducible refine w_iR3 ?_))
local macro_rules | `(tactic| walk_at "w") => `(tactic| (repeat (first | walk_at "w1" | dsimp (config := { proj := false }) only [List.set_cons_zero, List.set_cons_succ])))
section
variable {w : World} [Lit] {mg : Str → Option Value} {base : Heap}
local macro_rules | `(tactic| walk_at "v1") => `(tactic| (first
  | with_reducible refine w_seq ?_ | with_reducible refine w_asgN ?_ | with_reducible refine w_c ?_
  | ((with_reducible refine' w_var ?wv ?_); (case wv => exact rfl))
  | with_reducible refine w_op ?_ | with_reducible refine w_un ?_ | with_reducible refine w_next ?_ | with_reducible refine w_brk ?_ | with_reducible refine w_cnt ?_
  | with_reducible refine w_ifS ?_ | with_reducible refine w_if ?_ | with_reducible refine w_test ?_ | with_reducible refine w_tB ?_ | with_reducible refine w_bl ?_ | with_reducible refine w_blI ?_
  | with_reducible refine w_and ?_ | with_reducible refine w_or ?_ | with_reducible refine w_not ?_ | with_reducible refine w_andV ?_ | with_reducible refine w_orV ?_ | with_reducible refine w_notV ?_
  | with_reducible refine w_nil ?_ | with_reducible refine w_cons ?_ | with_reducible refine w_cb ?_ | with_reducible refine w_call ?_ | with_reducible refine w_callS ?_ | with_reducible refine w_chain ?_
  | with_reducible refine w_sl ?_ | with_reducible refine w_noPart ?_ | with_reducible refine w_part ?_ | with_reducible refine w_partI ?_
  | with_reducible refine w_ret ?_ | with_reducible refine w_retN ?_ | with_reducible refine w_drop ?_ | with_reducible refine w_asg ?_ | with_reducible refine w_gSub ?_
  | ((with_reducible refine' w_aug ?wv ?_); (case wv => exact rfl)) | with_reducible refine w_ipI ?_
  | with_reducible refine w_addI ?_ | with_reducible refine w_subI ?_ | with_reducible refine w_ltI ?_ | with_reducible refine w_leI ?_ | with_reducible refine w_gtI ?_ | with_reducible refine w_geI ?_
  | with_reducible refine w_eqI ?_ | with_reducible refine w_neI ?_ | with_reducible refine w_eqT ?_ | with_reducible refine w_neT ?_ | with_reducible refine w_inS ?_ | with_reducible refine w_ninS ?_
  | with_reducible refine w_absI ?_ | with_reducible refine w_intI ?_ | with_reducible refine w_maxI ?_ | with_reducible refine w_minI ?_
  | with_reducible refine w_for ?_ | with_reducible refine w_iR1 ?_ | with_reducible refine w_iR2 ?_ | with_reducible refine w_iStr ?_ | with_reducible refine w_strI ?_ | with_reducible refine w_iList ?_ | with_reducible refine w_iTup ?_
  | with_reducible refine w_bm ?_ | with_reducible refine w_bm0 ?_ | with_reducible refine w_t ?_ | with_reducible refine w_f ?_ | with_reducible refine w_nt ?_ | with_reducible refine w_nx ?_ | with_reducible refine w_rt ?_ | with_reducible refine w_bk ?_ | with_reducible refine w_ct ?_ | with_reducible refine w_nf ?_ | with_reducible refine w_lc ?_ | with_reducible refine w_yes ?_ | with_reducible refine w_neg ?_ | with_reducible refine w_intB ?_ | with_reducible refine w_fld ?_ | with_reducible refine w_setf ?_ | with_reducible refine w_faug ?_ | with_reducible refine w_meth ?_ | with_reducible refine w_bmS ?_ | with_reducible refine w_start ?_ | with_reducible refine w_revL ?_ | with_reducible refine w_iR3 ?_))
local macro_rules | `(tactic| walk_at "v") => `(tactic| (repeat (first | walk_at "v1" | dsimp (config := { proj := false }) only [List.set_cons_zero, List.set_cons_succ])))
local macro_rules | `(tactic| walk_at "d") => `(tactic| (repeat (first | exact eva_nil | refine eva_cons ?_ ?_ | exact ev_str | exact ev_int | exact ev_neg | refine ev_tup ?_ | exact ev_var rfl (.str _) | exact ev_var rfl (.int _) | (refine ev_var rfl ?_; assumption))))


theorem dl_exK {H H' : Hp} {p q : Addr} {ds : List PyData} {kvs : List (Key × V)} (h : DL H p ds) (x : Ex q H H') (n : p ≠ q) (hq : H q = some (.dK kvs)) : DL H' p ds := let ⟨xs, e, t⟩ := h; ⟨xs, by rw [x p n]; exact e, t.tm (Tm.exK hq x)⟩
theorem w_dnin {ty td : TE} {σ : L2.St} {H : Hp} {Q : VK} (h : ty σ H fun y H1 => td σ H1 fun x H2 => ∃ a o, x = .ref a ∧ DGet H2 a y o ∧ Q (.bl (!o.isSome)) H2) : tDNotIn ty td σ H Q := h
abbrev Tb (α : Type) := List Nat → Option α
/-- a dict with text keys: what stands at its keys -/
def DOk (H : Hp) (kvs : List (Key × V)) (n : Nat) (f : Tb PyData) : Prop := kvs.length ≤ n ∧ (∀ p ∈ kvs, flatB p.2 = true ∨ ∃ b, p.2 = V.ref b) ∧
  ∀ w, (valV kvs (Sum.inr (S w)) = none ∧ f w = none) ∨ ∃ v d, valV kvs (Sum.inr (S w)) = some v ∧ f w = some d ∧ TD H v d
theorem DOk.tm {H H' : Hp} {kvs : List (Key × V)} {n : Nat} {f : Tb PyData} (h : DOk H kvs n f) (t : Tm H H') : DOk H' kvs n f :=
  ⟨h.1, h.2.1, fun w => (h.2.2 w).imp id fun ⟨v, d, a, b, c⟩ => ⟨v, d, a, b, c.tm t⟩⟩
theorem DOk.nil {H : Hp} : DOk H [] 0 (fun _ => none) := ⟨Nat.le_refl _, fun p hp => absurd hp List.not_mem_nil, fun w => .inl ⟨rfl, rfl⟩⟩
theorem mem_putK {κ : Type} [DecidableEq κ] {kvs : List (κ × V)} {k : κ} {v : V} {p : κ × V} (h : p ∈ putK kvs k v) : p ∈ kvs ∨ p.2 = v := by
  unfold putK at h
  split at h
  · obtain ⟨q, hq, rfl⟩ := List.mem_map.mp h
    split
    · exact .inr rfl
    · exact .inl hq
  · rcases List.mem_append.mp h with h | h
    · exact .inl h
    · rw [List.mem_singleton.mp h]; exact .inr rfl
theorem TD.flat {H : Hp} {v : V} {d : PyData} (h : TD H v d) : flatB v = true ∨ ∃ b, v = V.ref b := by
  cases h with
  | tup _ _ => exact .inr ⟨_, rfl⟩
  | _ => exact .inl rfl
def setT {α : Type} (f : Tb α) (w : List Nat) (x : α) : Tb α := fun w' => if w' = w then some x else f w'
theorem inrS {a b : List Nat} : ((Sum.inr (S a) : Key) = Sum.inr (S b)) ↔ a = b := ⟨fun z => SX.S_inj (Sum.inr.inj z), fun z => by rw [z]⟩
theorem DOk.put {H : Hp} {kvs : List (Key × V)} {n : Nat} {f : Tb PyData} {w : List Nat} {v : V} {d : PyData} (h : DOk H kvs n f) (t : TD H v d) : DOk H (putK kvs (Sum.inr (S w)) v) (n + 1) (setT f w d) := by
  refine ⟨Nat.le_trans (length_putK _ _ _) (Nat.succ_le_succ h.1), fun p hp => ?_, fun w' => ?_⟩
  · rcases mem_putK hp with hp | hp
    · exact h.2.1 p hp
    · rw [hp]; exact TD.flat t
  · rw [valV_put]
    unfold setT
    by_cases z : w' = w
    · subst z
      rw [if_pos rfl, if_pos rfl]; exact .inr ⟨v, d, rfl, rfl, t⟩
    · rw [if_neg (fun y => z (inrS.mp y)), if_neg z]; exact h.2.2 w'

theorem setT_same {α : Type} (f : Tb α) (w : List Nat) (x : α) : setT f w x w = some x := by unfold setT; rw [if_pos rfl]
/-- the kind with kinds for its variables -/
def subK (τ : List Nat → Kd) : Kd → Kd
  | .fr w => τ w
  | .to a b => .to (subK τ a) (subK τ b)
  | .nm w => .nm w
def prK (e : Kd × Kd) : PyData := .tuple [e.1.d, e.2.d]
def stK (st : List (Kd × Kd)) : List PyData := (st.map prK).reverse
theorem stK_cons (e : Kd × Kd) (st : List (Kd × Kd)) : stK (e :: st) = stK st ++ [prK e] := by unfold stK; rw [List.map_cons, List.reverse_cons]
theorem stK_len (st : List (Kd × Kd)) : (stK st).length = st.length := by unfold stK; rw [List.length_reverse, List.length_map]
def stM (st : List (Kd × Kd)) : Nat := (st.map fun e => e.1.sz).sum
theorem stM_cons (e : Kd × Kd) (st : List (Kd × Kd)) : stM (e :: st) = e.1.sz + stM st := rfl
theorem stM_len : ∀ st : List (Kd × Kd), st.length ≤ stM st
  | [] => Nat.zero_le _
  | e :: st => by have := stM_len st; have := e.1.sz_pos; rw [stM_cons, List.length_cons]; omega
def sp_match_kind : Sp := sp2 fun x y H Q _ => ∃ (p : Kd) (τ : List Nat → Kd), TD H x p.d ∧ TD H y (subK τ p).d ∧ p.sz ≤ 100 ∧ GK (subK τ p) ∧ ∀ a H', Same H H' → Q (.ref a) H'
theorem ok_match_kind (T : Txt w K mg) {fd : FuncData} (F : Fn_match_kind K fd) (hm : mg "match_kind" = some (.ref (He.ga K "match_kind")))  : CalX P w K mg base CX0 1 "match_kind" sp_match_kind := by
  refine calx0 (k := 0) F hm sc_match_kind (b_match_kind F) (fun _ _ _ _ h => sp2_len h) (fun cdv A outer s H vs Q E hr h => ?_)
  obtain ⟨x0, x1, rfl, h⟩ := h
  refine ⟨_, (pss_cons (ps_set (i := 2) sc_match_kind.nd rfl (Or.inl rfl) pe_dnewK)
    (pss_cons (ps_set (i := 3) sc_match_kind.nd rfl (Or.inl rfl) (pe_lst (pa_cons (pe_tup (pa_cons (pv 0) (pa_cons (pv 1) pa_nil))) pa_nil)))
    (pss_cons (ps_while PassesOwn.never (pt_truth (pv 3) (by intro _; rfl))
    (pss_cons (ps_asg (pe_bm0 PySem.F.plainAttrs_list PySem.F.slot_list_pop PySem.F.type_list_pop mt_pop (pv 3)) (pg_tup (by rfl) (pgs_cons (pg_name (i := 4) sc_match_kind.nd rfl (Or.inl rfl)) (pgs_cons (pg_name (i := 5) sc_match_kind.nd rfl (Or.inl rfl)) pgs_nil))))
    (pss_one (ps_if (pt_cmpR op_eq (pe_ix ix_tup (pv 4) pe_int (fun _ _ => rfl)) pe_str (nomark _))
    (pss_one (ps_if (pt_cmp (pc_dnotin (hu_of hr) (pe_ix ix_tup (pv 4) pe_int (fun _ _ => rfl)) (pv 2)))
    (pss_one (ps_asg (pv 5) (pg_sub (pv 2) (pe_ix ix_tup (pv 4) pe_int (fun _ _ => rfl)) (set_dict (hu_of hr)))))
    (pss_one (ps_if (pt_cmpR (op_neN hr) (pe_dget (hu_of hr) (pv 2) (pe_ix ix_tup (pv 4) pe_int (fun _ _ => rfl)) (fun _ _ => rfl)) (pv 5) (nomark _))
    (pss_one (ps_ret pe_non))
    pss_nil))))
    (pss_one (ps_if (PW.pt (pw_and (pt_cmpR op_eq (pe_ix ix_tup (pv 4) pe_int (fun _ _ => rfl)) pe_str (nomark _)) (pw_and1 (pt_cmpR op_eq (pe_ix ix_tup (pv 5) pe_int (fun _ _ => rfl)) pe_str (nomark _)))))
    (pss_cons (ps_expr (pe_bm PySem.F.plainAttrs_list PySem.F.slot_list_append PySem.F.type_list_append mt_append (pv 3) (pa_cons (pe_tup (pa_cons (pe_ix ix_tup (pv 4) pe_int (fun _ _ => rfl)) (pa_cons (pe_ix ix_tup (pv 5) pe_int (fun _ _ => rfl)) pa_nil))) pa_nil)))
    (pss_one (ps_expr (pe_bm PySem.F.plainAttrs_list PySem.F.slot_list_append PySem.F.type_list_append mt_append (pv 3) (pa_cons (pe_tup (pa_cons (pe_ix ix_tup (pv 4) pe_int (fun _ _ => rfl)) (pa_cons (pe_ix ix_tup (pv 5) pe_int (fun _ _ => rfl)) pa_nil))) pa_nil)))))
    (pss_one (ps_if (pt_cmpR (op_neN hr) (pv 4) (pv 5) (nomark _))
    (pss_one (ps_ret pe_non))
    pss_nil))))))))
    (pss_one (ps_ret (pv 2)))))), ?_⟩
  rw [show start ["pattern", "kind", "table", "waiting", "wanted", "found"] [x0, x1] = [some x0, some x1, none, none, none, none] from rfl]
  have ec0 : Str.ofString "free" = S [102,114,101,101] := S_ofs (by decide +kernel)
  have ec1 : Str.ofString "to" = S [116,111] := S_ofs (by decide +kernel)
  rw [ec0, ec1]
  obtain ⟨p, τ, hx, hy, hps, hg, hQ⟩ := h
  try dsimp only [cxOf]
  walk_at "v"
  refine w_dnew (fun ta H1 hta s1 e1 => ?_)
  walk_at "v"
  refine ev_lst (ds := stK [(p, subK τ p)]) (eva_cons (ev_tup (eva_cons (ev_var rfl (hx.tm (Tm.same s1))) (eva_cons (ev_var rfl (hy.tm (Tm.same s1))) eva_nil))) eva_nil) (fun wl H2 hwl s2 d2 => ?_)
  walk_at "v"
  have s02 := s1.tr s2
  have hwl0 : H wl = none := s1.fresh hwl
  have htw : ta ≠ wl := fun z => by rw [z, hwl] at e1; cases e1
  refine ⟨fun m σ H' => ∃ (st : List (Kd × Kd)) (kvs : List (Key × V)) (n : Nat) (f : Tb PyData) (v4 v5 : Option V), σ = [some x0, some x1, some (.ref ta), some (.ref wl), v4, v5] ∧ m = stM st ∧ Same H H' ∧ DL H' wl (stK st) ∧ H' ta = some (.dK kvs) ∧ DOk H' kvs n f ∧
      (∀ w d, f w = some d → d = (τ w).d) ∧ (∀ e ∈ st, e.2 = subK τ e.1 ∧ GK e.2) ∧ n + stM st ≤ 100,
    ⟨_, [(p, subK τ p)], [], 0, fun _ => none, _, _, rfl, rfl, s02, d2, s2 _ _ e1, DOk.nil, fun w d z => (by cases z), fun e he => by rw [List.mem_singleton.mp he]; exact ⟨rfl, hg⟩, by show 0 + (p.sz + 0) ≤ 100; omega⟩, ?_⟩
  rintro m σ G ⟨st, kvs, n, f, v4, v5, rfl, rfl, sg, dt, ek, dk, hf, hst, hm⟩
  walk_at "v"
  refine l_truth dt ?_
  cases st with
  | nil =>
    rw [decide_eq_false (by unfold stK; simp), if_neg Bool.false_ne_true]
    walk_at "v"
    exact hQ ta G sg
  | cons e st =>
    obtain ⟨q, fo⟩ := e
    obtain ⟨efo, gfo⟩ := hst (q, fo) List.mem_cons_self
    have efo : fo = subK τ q := efo
    have gfo : GK fo := gfo
    subst efo
    have hst' : ∀ e ∈ st, e.2 = subK τ e.1 ∧ GK e.2 := fun e he => hst e (List.mem_cons_of_mem _ he)
    have hsl := stM_len st
    have hm : n + (q.sz + stM st) ≤ 100 := hm
    have hqp := q.sz_pos
    rw [decide_eq_true (by rw [stK_cons]; simp), if_pos rfl]
    refine ⟨fun σ' H' => ∃ m', m' < stM ((q, subK τ q) :: st) ∧ ∃ (st : List (Kd × Kd)) (kvs : List (Key × V)) (n : Nat) (f : Tb PyData) (v4 v5 : Option V), σ' = [some x0, some x1, some (.ref ta), some (.ref wl), v4, v5] ∧ m' = stM st ∧ Same H H' ∧ DL H' wl (stK st) ∧ H' ta = some (.dK kvs) ∧ DOk H' kvs n f ∧
      (∀ w d, f w = some d → d = (τ w).d) ∧ (∀ e ∈ st, e.2 = subK τ e.1 ∧ GK e.2) ∧ n + stM st ≤ 100, fun _ _ h => h, ?_⟩
    rw [stK_cons] at dt
    walk_at "v"
    refine l_ty dt ?_
    walk_at "v"
    refine l_pop dt (fun y1 H4 ty1 d4 x4 => ?_)
    obtain ⟨_, dtl⟩ := dt.lst
    have tm4 := Tm.ex dtl x4
    have s4 := sg.ex hwl0 x4
    have ek4 : H4 ta = some (.dK kvs) := by rw [x4 ta htw]; exact ek
    have dk4 := dk.tm tm4
    obtain ⟨xa, xs, rfl, hxa, txs⟩ := ty1.tuple
    obtain ⟨yw, yf, rfl, tw, tf⟩ := txs.two
    refine w_un2 rfl hxa ?_
    walk_at "v"
    have tf : TD H4 yf (subK τ q).d := tf
    cases q with
    | fr w =>
      have tw : TD H4 yw (.tuple [.str (S wFREE), .str (S w)]) := tw
      have hm : n + (1 + stM st) ≤ 100 := hm
      refine t_ixS (n := 0) tw rfl ?_
      walk_at "v"
      rw [show decide (wFREE = [102, 114, 101, 101]) = true from by decide]
      walk_at "v"
      refine w_dnin ?_
      walk_at "v"
      refine t_ixS (n := 1) tw rfl ?_
      walk_at "v"
      refine k_in (k := Sum.inr (S w)) ek4 ?_
      rcases dk4.2.2 w with ⟨h1, h2⟩ | ⟨v, d, h1, h2, h3⟩
      · rw [h1, show (!(none : Option V).isSome) = true from rfl]
        refine ⟨true, rfl, ?_⟩
        rw [if_pos rfl]
        walk_at "v"
        refine t_ixS (n := 1) tw rfl ?_
        walk_at "v"
        refine k_put (k := Sum.inr (S w)) ek4 (by have := dk4.1; omega) (fun H5 e5 x5 => ?_)
        have tm5 := Tm.exK ek4 x5
        refine ⟨_, ?_, st, _, n + 1, setT f w (τ w).d, _, _, rfl, rfl, s4.ex hta x5, dl_exK d4 x5 htw.symm ek4, e5, (dk4.put tf).tm tm5, fun w' d' z => ?_, hst', by omega⟩
        · rw [stM_cons]; show stM st < 1 + stM st; omega
        · unfold setT at z
          by_cases y : w' = w
          · rw [if_pos y] at z; rw [y]; exact (Option.some.inj z).symm
          · rw [if_neg y] at z; exact hf w' d' z
      · rw [h1, show (!(some v).isSome) = false from rfl]
        refine ⟨false, rfl, ?_⟩
        rw [if_neg Bool.false_ne_true]
        walk_at "v"
        refine w_dget ?_
        walk_at "v"
        refine t_ixS (n := 1) tw rfl ?_
        walk_at "v"
        refine k_get (k := Sum.inr (S w)) ek4 h1 ?_
        walk_at "v"
        have hd := hf w d h2
        subst hd
        have hz : Sz 180 (τ w).d := GK.sz180 gfo
        refine d_ne h3 tf hz hz ?_
        rw [show PyData.eqv (τ w).d (subK τ (.fr w)).d = true from by show PyData.eqv (τ w).d (τ w).d = true; rw [Kd.eqv]; exact decide_eq_true rfl]
        walk_at "v"
        exact ⟨_, by rw [stM_cons]; show stM st < 1 + stM st; omega, st, kvs, n, f, _, _, rfl, rfl, s4, d4, ek4, dk4, hf, hst', by omega⟩
    | nm w =>
      have tw' : TD H4 yw (.tuple [.str (S wNAMED), .str (S w)]) := tw
      have hm : n + (1 + stM st) ≤ 100 := hm
      refine t_ixS (n := 0) tw' rfl ?_
      walk_at "v"
      rw [show decide (wNAMED = [102, 114, 101, 101]) = false from by decide]
      walk_at "v"
      refine t_ixS (n := 0) tw' rfl ?_
      walk_at "v"
      rw [show decide (wNAMED = [116, 111]) = false from by decide]
      walk_at "v"
      have hz : Sz 180 (Kd.nm w).d := GK.sz180 gfo
      refine d_ne tw tf hz hz ?_
      rw [show PyData.eqv (Kd.nm w).d (subK τ (.nm w)).d = true from by show PyData.eqv (Kd.nm w).d (Kd.nm w).d = true; rw [Kd.eqv]; exact decide_eq_true rfl]
      walk_at "v"
      exact ⟨_, by rw [stM_cons]; show stM st < 1 + stM st; omega, st, kvs, n, f, _, _, rfl, rfl, s4, d4, ek4, dk4, hf, hst', by omega⟩
    | to b c =>
      have tw : TD H4 yw (.tuple [.str (S wTO), b.d, c.d]) := tw
      have tf : TD H4 yf (.tuple [.str (S wTO), (subK τ b).d, (subK τ c).d]) := tf
      have hm : n + (b.sz + c.sz + 1 + stM st) ≤ 100 := hm
      have gb : GK (subK τ b) := ⟨gfo.1.1, by have h : (subK τ b).sz + (subK τ c).sz + 1 ≤ 100 := gfo.2; omega⟩
      have gc : GK (subK τ c) := ⟨gfo.1.2, by have h : (subK τ b).sz + (subK τ c).sz + 1 ≤ 100 := gfo.2; omega⟩
      refine t_ixS (n := 0) tw rfl ?_
      walk_at "v"
      rw [show decide (wTO = [102, 114, 101, 101]) = false from by decide]
      walk_at "v"
      refine t_ixS (n := 0) tw rfl ?_
      walk_at "v"
      rw [show decide (wTO = [116, 111]) = true from by decide]
      walk_at "v"
      refine t_ixS (n := 0) tf rfl ?_
      walk_at "v"
      rw [show decide (wTO = [116, 111]) = true from by decide]
      walk_at "v"
      refine l_ty d4 ?_
      walk_at "v"
      refine w_tupN ?_
      walk_at "v"
      refine t_ix (n := 2) tw rfl (fun u6 tu6 => ?_)
      walk_at "v"
      refine t_ix (n := 2) tf rfl (fun z6 tz6 => ?_)
      walk_at "v"
      refine t_new (ds := [c.d, (subK τ c).d]) (.cons tu6 (.cons tz6 .nil)) (fun q6 G6 hq6 r6 tq6 => ?_)
      walk_at "v"
      refine l_app (d := prK (c, subK τ c)) (d4.same r6) tq6 (fun K6 e6 y6 => ?_) (by rw [stK_len]; omega)
      walk_at "v"
      obtain ⟨_, dl6⟩ := (d4.same r6).lst
      have tm6 := (Tm.same r6).tr (Tm.ex dl6 y6)
      refine l_ty e6 ?_
      walk_at "v"
      refine w_tupN ?_
      walk_at "v"
      refine t_ix (n := 1) (tw.tm tm6) rfl (fun u7 tu7 => ?_)
      walk_at "v"
      refine t_ix (n := 1) (tf.tm tm6) rfl (fun z7 tz7 => ?_)
      walk_at "v"
      refine t_new (ds := [b.d, (subK τ b).d]) (.cons tu7 (.cons tz7 .nil)) (fun q7 G7 hq7 r7 tq7 => ?_)
      walk_at "v"
      refine l_app (d := prK (b, subK τ b)) (e6.same r7) tq7 (fun K7 e7 y7 => ?_) (by rw [List.length_append, stK_len]; show st.length + 1 ≤ 100000; omega)
      walk_at "v"
      obtain ⟨_, dl7⟩ := (e6.same r7).lst
      have tm7 := (Tm.same r7).tr (Tm.ex dl7 y7)
      refine ⟨_, ?_, (b, subK τ b) :: (c, subK τ c) :: st, kvs, n, f, _, _, rfl, rfl, ((((s4.tr r6).ex hwl0 y6).tr r7).ex hwl0 y7), by rw [stK_cons, stK_cons]; exact e7, ?_, (dk4.tm tm6).tm tm7, hf, fun e he => ?_, ?_⟩
      · rw [stM_cons, stM_cons, stM_cons]; show b.sz + (c.sz + stM st) < b.sz + c.sz + 1 + stM st; omega
      · rw [y7 ta htw]; refine r7 _ _ ?_; rw [y6 ta htw]; exact r6 _ _ ek4
      · rcases List.mem_cons.mp he with rfl | he
        · exact ⟨rfl, gb⟩
        rcases List.mem_cons.mp he with rfl | he
        · exact ⟨rfl, gc⟩
        · exact hst' e he
      · rw [stM_cons, stM_cons]; show n + (b.sz + (c.sz + stM st)) ≤ 100; omega
end
end K03

namespace K03
open PySem PySem.Spec PyProof.Rows L2 SX K02 K01
local macro_rules | `(tactic| walk_at "w1") => `(tactic| (first
  | with_reducible refine w_seq ?_ | with_reducible refine w_asgN ?_ | with_reducible refine w_c ?_
  | ((with_reducible refine' w_var ?wv ?_); (case wv => exact rfl))
  | with_reducible refine w_op ?_ | with_reducible refine w_un ?_ | with_reducible refine w_next ?_ | with_reducible refine w_brk ?_ | with_reducible refine w_cnt ?_
  | with_reducible refine w_ifS ?_ | with_reducible refine w_if ?_ | with_reducible refine w_test ?_ | with_reducible refine w_tB ?_ | with_reducible refine w_bl ?_ | with_reducible refine w_blI ?_
  | with_reducible refine w_and ?_ | with_reducible refine w_or ?_ | with_reducible refine w_not ?_ | with_reducible refine w_andV ?_ | with_reducible refine w_orV ?_ | with_reducible refine w_notV ?_
  | with_reducible refine w_nil ?_ | with_reducible refine w_cons ?_ | with_reducible refine w_cb ?_ | with_reducible refine w_call ?_ | with_reducible refine w_callS ?_ | with_reducible refine w_chain ?_
  | with_reducible refine w_tupN ?_ | with_reducible refine w_lstN ?_ | with_reducible refine w_sl ?_ | with_reducible refine w_noPart ?_ | with_reducible refine w_part ?_ | with_reducible refine w_partI ?_
  | with_reducible refine w_ret ?_ | with_reducible refine w_retN ?_ | with_reducible refine w_drop ?_ | with_reducible refine w_asg ?_ | with_reducible refine w_gSub ?_
  | ((with_reducible refine' w_aug ?wv ?_); (case wv => exact rfl)) | with_reducible refine w_ipI ?_
  | with_reducible refine w_addI ?_ | with_reducible refine w_subI ?_ | with_reducible refine w_ltI ?_ | with_reducible refine w_leI ?_ | with_reducible refine w_gtI ?_ | with_reducible refine w_geI ?_
  | with_reducible refine w_eqI ?_ | with_reducible refine w_neI ?_ | with_reducible refine w_eqT ?_ | with_reducible refine w_neT ?_ | with_reducible refine w_inS ?_ | with_reducible refine w_ninS ?_
  | with_reducible refine w_absI ?_ | with_reducible refine w_intI ?_ | with_reducible refine w_maxI ?_ | with_reducible refine w_minI ?_
  | with_reducible refine w_for ?_ | with_reducible refine w_iR1 ?_ | with_reducible refine w_iR2 ?_ | with_reducible refine w_iStr ?_ | with_reducible refine w_strI ?_ | with_reducible refine w_iList ?_ | with_reducible refine w_iTup ?_
  | with_reducible refine w_bm ?_ | with_reducible refine w_bm0 ?_ | with_reducible refine w_t ?_ | with_reducible refine w_f ?_ | with_reducible refine w_nt ?_ | with_reducible refine w_nx ?_ | with_reducible refine w_rt ?_ | with_reducible refine w_bk ?_ | with_reducible refine w_ct ?_ | with_reducible refine w_nf ?_ | with_reducible refine w_lc ?_ | with_reducible refine w_yes ?_ | with_reducible refine w_neg ?_ | with_reducible refine w_intB ?_ | with_reducible refine w_fld ?_ | with_reducible refine w_setf ?_ | with_reducible refine w_faug ?_ | with_reducible refine w_meth ?_ | with_reducible refine w_bmS ?_ | with_reducible refine w_start ?_ | with_reducible refine w_revL ?_ | with_reducible refine w_iR3 ?_))
local macro_rules | `(tactic| walk_at "w") => `(tactic| (repeat (first | walk_at "w1" | dsimp (config := { proj := false }) only [List.set_cons_zero, List.set_cons_succ])))
section
variable {w : World} [Lit] {mg : Str → Option Value} {base : Heap}
local macro_rules | `(tactic| walk_at "v1") => `(tactic| (first
  | with_reducible refine w_seq ?_ | with_reducible refine w_asgN ?_ | with_reducible refine w_c ?_
  | ((with_reducible refine' w_var ?wv ?_); (case wv => exact rfl))
  | with_reducible refine w_op ?_ | with_reducible refine w_un ?_ | with_reducible refine w_next ?_ | with_reducible refine w_brk ?_ | with_reducible refine w_cnt ?_
  | with_reducible refine w_ifS ?_ | with_reducible refine w_if ?_ | with_reducible refine w_test ?_ | with_reducible refine w_tB ?_ | with_reducible refine w_bl ?_ | with_reducible refine w_blI ?_
  | with_reducible refine w_and ?_ | with_reducible refine w_or ?_ | with_reducible refine w_not ?_ | with_reducible refine w_andV ?_ | with_reducible refine w_orV ?_ | with_reducible refine w_notV ?_
  | with_reducible refine w_nil ?_ | with_reducible refine w_cons ?_ | with_reducible refine w_cb ?_ | with_reducible refine w_call ?_ | with_reducible refine w_callS ?_ | with_reducible refine w_chain ?_
  | with_reducible refine w_sl ?_ | with_reducible refine w_noPart ?_ | with_reducible refine w_part ?_ | with_reducible refine w_partI ?_
  | with_reducible refine w_ret ?_ | with_reducible refine w_retN ?_ | with_reducible refine w_drop ?_ | with_reducible refine w_asg ?_ | with_reducible refine w_gSub ?_
  | ((with_reducible refine' w_aug ?wv ?_); (case wv => exact rfl)) | with_reducible refine w_ipI ?_
  | with_reducible refine w_addI ?_ | with_reducible refine w_subI ?_ | with_reducible refine w_ltI ?_ | with_reducible refine w_leI ?_ | with_reducible refine w_gtI ?_ | with_reducible refine w_geI ?_
  | with_reducible refine w_eqI ?_ | with_reducible refine w_neI ?_ | with_reducible refine w_eqT ?_ | with_reducible refine w_neT ?_ | with_reducible refine w_inS ?_ | with_reducible refine w_ninS ?_
  | with_reducible refine w_absI ?_ | with_reducible refine w_intI ?_ | with_reducible refine w_maxI ?_ | with_reducible refine w_minI ?_
  | with_reducible refine w_for ?_ | with_reducible refine w_iR1 ?_ | with_reducible refine w_iR2 ?_ | with_reducible refine w_iStr ?_ | with_reducible refine w_strI ?_ | with_reducible refine w_iList ?_ | with_reducible refine w_iTup ?_
  | with_reducible refine w_bm ?_ | with_reducible refine w_bm0 ?_ | with_reducible refine w_t ?_ | with_reducible refine w_f ?_ | with_reducible refine w_nt ?_ | with_reducible refine w_nx ?_ | with_reducible refine w_rt ?_ | with_reducible refine w_bk ?_ | with_reducible refine w_ct ?_ | with_reducible refine w_nf ?_ | with_reducible refine w_lc ?_ | with_reducible refine w_yes ?_ | with_reducible refine w_neg ?_ | with_reducible refine w_intB ?_ | with_reducible refine w_fld ?_ | with_reducible refine w_setf ?_ | with_reducible refine w_faug ?_ | with_reducible refine w_meth ?_ | with_reducible refine w_bmS ?_ | with_reducible refine w_start ?_ | with_reducible refine w_revL ?_ | with_reducible refine w_iR3 ?_))
local macro_rules | `(tactic| walk_at "v") => `(tactic| (repeat (first | walk_at "v1" | dsimp (config := { proj := false }) only [List.set_cons_zero, List.set_cons_succ])))
local macro_rules | `(tactic| walk_at "d") => `(tactic| (repeat (first | exact eva_nil | refine eva_cons ?_ ?_ | exact ev_str | exact ev_int | exact ev_neg | refine ev_tup ?_ | exact ev_var rfl (.str _) | exact ev_var rfl (.int _) | (refine ev_var rfl ?_; assumption))))

def lkT (w : List Nat) : Kd :=
  if w = gTRUE ∨ w = gFALSE then bK else if w = gNOT then .to bK bK else if w = gAND ∨ w = gOR ∨ w = gIMP then .to bK (.to bK bK) else if w = gEQ then .to (.fr [107]) (.to (.fr [107]) bK) else .to (.to (.fr [107]) bK) bK
theorem lkT_0 : lkT [116,114,117,101] = bK := by decide +kernel
theorem lkT_1 : lkT [102,97,108,115,101] = bK := by decide +kernel
theorem lkT_2 : lkT [126] = (.to bK bK) := by decide +kernel
theorem lkT_3 : lkT [38] = (.to bK (.to bK bK)) := by decide +kernel
theorem lkT_4 : lkT [124] = (.to bK (.to bK bK)) := by decide +kernel
theorem lkT_5 : lkT [61,62] = (.to bK (.to bK bK)) := by decide +kernel
theorem lkT_6 : lkT [61] = (.to (.fr [107]) (.to (.fr [107]) bK)) := by decide +kernel
theorem lkT_7 : lkT [97,108,108] = (.to (.to (.fr [107]) bK) bK) := by decide +kernel
theorem lkT_8 : lkT [115,111,109,101] = (.to (.to (.fr [107]) bK) bK) := by decide +kernel
def rdW (w : List Nat) : List Nat :=
  if w = [126] then [110,111,116] else if w = [38] then [97,110,100] else if w = [124] then [111,114] else if w = [61,62] then [105,109,112,108,105,101,115] else if w = [61] then [101,113,117,97,108] else w
def rdN (w : List Nat) : Nat :=
  if w = [116,114,117,101] then 0 else if w = [102,97,108,115,101] then 0 else if w = [126] then 1 else if w = [38] then 2 else if w = [124] then 2 else if w = [61,62] then 2 else if w = [61] then 2 else if w = [97,108,108] then 1 else 1
theorem rd_0 : rdW [116,114,117,101] = [116,114,117,101] ∧ rdN [116,114,117,101] = 0 := by decide +kernel
theorem rd_1 : rdW [102,97,108,115,101] = [102,97,108,115,101] ∧ rdN [102,97,108,115,101] = 0 := by decide +kernel
theorem rd_2 : rdW [126] = [110,111,116] ∧ rdN [126] = 1 := by decide +kernel
theorem rd_3 : rdW [38] = [97,110,100] ∧ rdN [38] = 2 := by decide +kernel
theorem rd_4 : rdW [124] = [111,114] ∧ rdN [124] = 2 := by decide +kernel
theorem rd_5 : rdW [61,62] = [105,109,112,108,105,101,115] ∧ rdN [61,62] = 2 := by decide +kernel
theorem rd_6 : rdW [61] = [101,113,117,97,108] ∧ rdN [61] = 2 := by decide +kernel
theorem rd_7 : rdW [97,108,108] = [97,108,108] ∧ rdN [97,108,108] = 1 := by decide +kernel
theorem rd_8 : rdW [115,111,109,101] = [115,111,109,101] ∧ rdN [115,111,109,101] = 1 := by decide +kernel
theorem sNAMED : S wNAMED = Str.ofString "named" := (S_ofs (by decide +kernel)).symm
theorem sFREE : S wFREE = Str.ofString "free" := (S_ofs (by decide +kernel)).symm
theorem sTO : S wTO = Str.ofString "to" := (S_ofs (by decide +kernel)).symm
theorem sBOOL : S wBOOL = Str.ofString "bool" := (S_ofs (by decide +kernel)).symm
theorem sK : S [107] = Str.ofString "k" := (S_ofs (by decide +kernel)).symm
theorem sw_0 : S [116,114,117,101] = Str.ofString "true" := (S_ofs (by decide +kernel)).symm
theorem sw_1 : S [102,97,108,115,101] = Str.ofString "false" := (S_ofs (by decide +kernel)).symm
theorem sw_2 : S [126] = Str.ofString "~" := (S_ofs (by decide +kernel)).symm
theorem sw_3 : S [38] = Str.ofString "&" := (S_ofs (by decide +kernel)).symm
theorem sw_4 : S [124] = Str.ofString "|" := (S_ofs (by decide +kernel)).symm
theorem sw_5 : S [61,62] = Str.ofString "=>" := (S_ofs (by decide +kernel)).symm
theorem sw_6 : S [61] = Str.ofString "=" := (S_ofs (by decide +kernel)).symm
theorem sw_7 : S [97,108,108] = Str.ofString "all" := (S_ofs (by decide +kernel)).symm
theorem sw_8 : S [115,111,109,101] = Str.ofString "some" := (S_ofs (by decide +kernel)).symm
theorem sr_all : S [97,108,108] = Str.ofString "all" := (S_ofs (by decide +kernel)).symm
theorem sr_and : S [97,110,100] = Str.ofString "and" := (S_ofs (by decide +kernel)).symm
theorem sr_equal : S [101,113,117,97,108] = Str.ofString "equal" := (S_ofs (by decide +kernel)).symm
theorem sr_false : S [102,97,108,115,101] = Str.ofString "false" := (S_ofs (by decide +kernel)).symm
theorem sr_implies : S [105,109,112,108,105,101,115] = Str.ofString "implies" := (S_ofs (by decide +kernel)).symm
theorem sr_not : S [110,111,116] = Str.ofString "not" := (S_ofs (by decide +kernel)).symm
theorem sr_or : S [111,114] = Str.ofString "or" := (S_ofs (by decide +kernel)).symm
theorem sr_some : S [115,111,109,101] = Str.ofString "some" := (S_ofs (by decide +kernel)).symm
theorem sr_true : S [116,114,117,101] = Str.ofString "true" := (S_ofs (by decide +kernel)).symm
theorem log_cases {w : List Nat} (h : w ∈ LOGIC) : w = [116,114,117,101] ∨ w = [102,97,108,115,101] ∨ w = [126] ∨ w = [38] ∨ w = [124] ∨ w = [61,62] ∨ w = [61] ∨ w = [97,108,108] ∨ w = [115,111,109,101] := by
  simpa [LOGIC] using h
theorem lk_get (T : Txt w K mg) {x : List Nat} (h : x ∈ LOGIC) : ∃ p ∈ td_LOGIC_KINDS, p.1 = S x ∧ ∀ H, TD H (p.2.v K) (lkT x).d := by
  rcases log_cases h with rfl | rfl | rfl | rfl | rfl | rfl | rfl | rfl | rfl
  · refine ⟨_, List.mem_of_getElem? (i := 0) rfl, sw_0.symm, fun H => ?_⟩
    have e := T.l_LOGIC_KINDS_0 H
    rw [lkT_0]
    show TD H _ (.tuple [.str (S wNAMED), .str (S wBOOL)])
    simp only [sNAMED, sFREE, sTO, sBOOL, sK]
    exact e
  · refine ⟨_, List.mem_of_getElem? (i := 1) rfl, sw_1.symm, fun H => ?_⟩
    have e := T.l_LOGIC_KINDS_1 H
    rw [lkT_1]
    show TD H _ (.tuple [.str (S wNAMED), .str (S wBOOL)])
    simp only [sNAMED, sFREE, sTO, sBOOL, sK]
    exact e
  · refine ⟨_, List.mem_of_getElem? (i := 2) rfl, sw_2.symm, fun H => ?_⟩
    have e := T.l_LOGIC_KINDS_2 H
    rw [lkT_2]
    show TD H _ (.tuple [.str (S wTO), (.tuple [.str (S wNAMED), .str (S wBOOL)]), (.tuple [.str (S wNAMED), .str (S wBOOL)])])
    simp only [sNAMED, sFREE, sTO, sBOOL, sK]
    exact e
  · refine ⟨_, List.mem_of_getElem? (i := 3) rfl, sw_3.symm, fun H => ?_⟩
    have e := T.l_LOGIC_KINDS_3 H
    rw [lkT_3]
    show TD H _ (.tuple [.str (S wTO), (.tuple [.str (S wNAMED), .str (S wBOOL)]), (.tuple [.str (S wTO), (.tuple [.str (S wNAMED), .str (S wBOOL)]), (.tuple [.str (S wNAMED), .str (S wBOOL)])])])
    simp only [sNAMED, sFREE, sTO, sBOOL, sK]
    exact e
  · refine ⟨_, List.mem_of_getElem? (i := 4) rfl, sw_4.symm, fun H => ?_⟩
    have e := T.l_LOGIC_KINDS_4 H
    rw [lkT_4]
    show TD H _ (.tuple [.str (S wTO), (.tuple [.str (S wNAMED), .str (S wBOOL)]), (.tuple [.str (S wTO), (.tuple [.str (S wNAMED), .str (S wBOOL)]), (.tuple [.str (S wNAMED), .str (S wBOOL)])])])
    simp only [sNAMED, sFREE, sTO, sBOOL, sK]
    exact e
  · refine ⟨_, List.mem_of_getElem? (i := 5) rfl, sw_5.symm, fun H => ?_⟩
    have e := T.l_LOGIC_KINDS_5 H
    rw [lkT_5]
    show TD H _ (.tuple [.str (S wTO), (.tuple [.str (S wNAMED), .str (S wBOOL)]), (.tuple [.str (S wTO), (.tuple [.str (S wNAMED), .str (S wBOOL)]), (.tuple [.str (S wNAMED), .str (S wBOOL)])])])
    simp only [sNAMED, sFREE, sTO, sBOOL, sK]
    exact e
  · refine ⟨_, List.mem_of_getElem? (i := 6) rfl, sw_6.symm, fun H => ?_⟩
    have e := T.l_LOGIC_KINDS_6 H
    rw [lkT_6]
    show TD H _ (.tuple [.str (S wTO), (.tuple [.str (S wFREE), .str (S [107])]), (.tuple [.str (S wTO), (.tuple [.str (S wFREE), .str (S [107])]), (.tuple [.str (S wNAMED), .str (S wBOOL)])])])
    simp only [sNAMED, sFREE, sTO, sBOOL, sK]
    exact e
  · refine ⟨_, List.mem_of_getElem? (i := 7) rfl, sw_7.symm, fun H => ?_⟩
    have e := T.l_LOGIC_KINDS_7 H
    rw [lkT_7]
    show TD H _ (.tuple [.str (S wTO), (.tuple [.str (S wTO), (.tuple [.str (S wFREE), .str (S [107])]), (.tuple [.str (S wNAMED), .str (S wBOOL)])]), (.tuple [.str (S wNAMED), .str (S wBOOL)])])
    simp only [sNAMED, sFREE, sTO, sBOOL, sK]
    exact e
  · refine ⟨_, List.mem_of_getElem? (i := 8) rfl, sw_8.symm, fun H => ?_⟩
    have e := T.l_LOGIC_KINDS_8 H
    rw [lkT_8]
    show TD H _ (.tuple [.str (S wTO), (.tuple [.str (S wTO), (.tuple [.str (S wFREE), .str (S [107])]), (.tuple [.str (S wNAMED), .str (S wBOOL)])]), (.tuple [.str (S wNAMED), .str (S wBOOL)])])
    simp only [sNAMED, sFREE, sTO, sBOOL, sK]
    exact e
theorem ra_get (T : Txt w K mg) {x : List Nat} (h : x ∈ LOGIC) : ∃ p ∈ td_READ_AS, p.1 = S x ∧ ∀ H, TD H (p.2.v K) (.tuple [.str (S (rdW x)), .int (rdN x : Int)]) := by
  rcases log_cases h with rfl | rfl | rfl | rfl | rfl | rfl | rfl | rfl | rfl
  · refine ⟨_, List.mem_of_getElem? (i := 0) rfl, sw_0.symm, fun H => ?_⟩
    have e := T.l_READ_AS_0 H
    rw [rd_0.1, rd_0.2]
    rw [sr_true]
    exact e
  · refine ⟨_, List.mem_of_getElem? (i := 1) rfl, sw_1.symm, fun H => ?_⟩
    have e := T.l_READ_AS_1 H
    rw [rd_1.1, rd_1.2]
    rw [sr_false]
    exact e
  · refine ⟨_, List.mem_of_getElem? (i := 2) rfl, sw_2.symm, fun H => ?_⟩
    have e := T.l_READ_AS_2 H
    rw [rd_2.1, rd_2.2]
    rw [sr_not]
    exact e
  · refine ⟨_, List.mem_of_getElem? (i := 3) rfl, sw_3.symm, fun H => ?_⟩
    have e := T.l_READ_AS_3 H
    rw [rd_3.1, rd_3.2]
    rw [sr_and]
    exact e
  · refine ⟨_, List.mem_of_getElem? (i := 4) rfl, sw_4.symm, fun H => ?_⟩
    have e := T.l_READ_AS_4 H
    rw [rd_4.1, rd_4.2]
    rw [sr_or]
    exact e
  · refine ⟨_, List.mem_of_getElem? (i := 5) rfl, sw_5.symm, fun H => ?_⟩
    have e := T.l_READ_AS_5 H
    rw [rd_5.1, rd_5.2]
    rw [sr_implies]
    exact e
  · refine ⟨_, List.mem_of_getElem? (i := 6) rfl, sw_6.symm, fun H => ?_⟩
    have e := T.l_READ_AS_6 H
    rw [rd_6.1, rd_6.2]
    rw [sr_equal]
    exact e
  · refine ⟨_, List.mem_of_getElem? (i := 7) rfl, sw_7.symm, fun H => ?_⟩
    have e := T.l_READ_AS_7 H
    rw [rd_7.1, rd_7.2]
    rw [sr_all]
    exact e
  · refine ⟨_, List.mem_of_getElem? (i := 8) rfl, sw_8.symm, fun H => ?_⟩
    have e := T.l_READ_AS_8 H
    rw [rd_8.1, rd_8.2]
    rw [sr_some]
    exact e
theorem td_words : td_LOGIC_KINDS.map (·.1) = LOGIC.map S := by
  show _ = [S [116,114,117,101], S [102,97,108,115,101], S [126], S [38], S [124], S [61,62], S [61], S [97,108,108], S [115,111,109,101]]
  rw [sw_0, sw_1, sw_2, sw_3, sw_4, sw_5, sw_6, sw_7, sw_8]
  rfl
theorem td_in (x : List Nat) : decide (S x ∈ td_LOGIC_KINDS.map (·.1)) = decide (x ∈ LOGIC) := by
  rw [td_words]
  by_cases h : x ∈ LOGIC
  · rw [decide_eq_true h, decide_eq_true (List.mem_map.mpr ⟨x, h, rfl⟩)]
  · rw [decide_eq_false h, decide_eq_false]
    intro z
    obtain ⟨y, hy, e⟩ := List.mem_map.mp z
    exact h (SX.S_inj e ▸ hy)
theorem tBOOL (T : Txt w K mg) (H : Hp) : TD H (.ref (He.ga K "BOOL")) bK.d := by
  have e := T.l_BOOL H
  show TD H _ (.tuple [.str (S wNAMED), .str (S wBOOL)])
  simp only [sNAMED, sBOOL]
  exact e
theorem fits_sub {w : List Nat} {k : Kd} (h : fitsL w k) : ∃ τ, k = subK τ (lkT w) := by
  cases h with
  | t h => exact ⟨fun _ => bK, by rcases h with rfl | rfl <;> decide +kernel⟩
  | not => exact ⟨fun _ => bK, by decide +kernel⟩
  | two h => exact ⟨fun _ => bK, by rcases h with rfl | rfl | rfl <;> decide +kernel⟩
  | eq k => exact ⟨fun _ => k, by rw [show lkT gEQ = _ from lkT_6]; rfl⟩
  | q k h => exact ⟨fun _ => k, by rcases h with rfl | rfl <;> first | (rw [show lkT gALL = _ from lkT_7]; rfl) | (rw [show lkT gSOME = _ from lkT_8]; rfl)⟩
theorem lkT_sz {x : List Nat} (h : x ∈ LOGIC) : (lkT x).sz ≤ 100 := by
  have : ∀ x ∈ LOGIC, (lkT x).sz ≤ 100 := by decide +kernel
  exact this x h
theorem log_noname {x : List Nat} (h : x ∈ LOGIC) : isName x = false := by
  have : ∀ x ∈ LOGIC, isName x = false := by decide +kernel
  exact this x h
def lgT : Gt → Prop
  | .app f a => lgT f ∧ lgT a
  | .lam _ b => lgT b
  | .tip x => lgc x
def nestT (w : List Nat) (gs : List Gt) (g : Gt) : Gt := gs.foldr (fun f r => .app (.app (.tip (.cst w (.to bK (.to bK bK)))) f) r) g
theorem nest_drop (w : List Nat) (gs : List Gt) (g : Gt) {i : Nat} {f : Gt} (e : gs[i]? = some f) : nestT w (gs.drop i) g = .app (.app (.tip (.cst w (.to bK (.to bK bK)))) f) (nestT w (gs.drop (i + 1)) g) := by
  rw [drop_eq e]; rfl
def isTwo (w : List Nat) : Prop := w = gAND ∨ w = gOR ∨ w = gIMP
theorem lkT_two {w : List Nat} (h : isTwo w) : lkT w = .to bK (.to bK bK) ∧ w ∈ LOGIC := by
  rcases h with rfl | rfl | rfl
  · exact ⟨lkT_3, by decide⟩
  · exact ⟨lkT_4, by decide⟩
  · exact ⟨lkT_5, by decide⟩

def sp_negation : Sp := sp1 fun x H Q _ => ∃ g : Gt, TD H x (upT g).d ∧ ∀ v H', Same H H' → TD H' v (upT (.app (.tip (.cst gNOT (.to bK bK))) g)).d → Q v H'
theorem ok_negation (T : Txt w K mg) {fd : FuncData} (F : Fn_negation K fd) (hm : mg "negation" = some (.ref (He.ga K "negation"))) (c_app : CalR P w K mg base CX0 1 "app" sp_appR)(c_const : CalX P w K mg base CX0 1 "const" sp_const) : CalX P w K mg base CX0 2 "negation" sp_negation := by
  refine calx0 (k := 1) F hm sc_negation (b_negation F) (fun _ _ _ _ h => sp1_len h) (fun cdv A outer s H vs Q E hr h => ?_)
  obtain ⟨x0, rfl, h⟩ := h
  refine ⟨_, (pss_one (ps_ret (pe_cr c_app hr (by decide) rfl pass0 (pa_cons (pe_cx c_const hr (by decide) rfl pass0 (pa_cons pe_str (pa_cons (pe_ix (ix_TD T.d_LOGIC_KINDS) (pe_gv T.v_LOGIC_KINDS) pe_str (fun _ _ => rfl)) pa_nil))) (pa_cons (pv 0) pa_nil))))), ?_⟩
  rw [show start ["p"] [x0] = [some x0] from rfl]
  have ec0 : Str.ofString "~" = S [126] := S_ofs (by decide +kernel)
  rw [ec0]
  obtain ⟨g, hx, hQ⟩ := h
  obtain ⟨p, hp, ep, tp⟩ := lk_get T (x := gNOT) (by decide)
  try dsimp only [cxOf]
  walk_at "v"
  refine ⟨p, hp, rfl, by rw [ep], ?_⟩
  walk_at "v"
  refine ⟨_, _, rfl, gNOT, .to bK bK, rfl, by rw [← show lkT gNOT = _ from lkT_2]; exact tp H, fun v1 H1 s1 t1 => ?_⟩
  walk_at "v"
  exact ⟨.tip (.cst gNOT (.to bK bK)), [g], _, _, rfl, t1, .cons (hx.tm (Tm.same s1)) .nil, Nat.le_of_ble_eq_true rfl, fun u H2 s2 t2 => hQ u H2 (s1.tr s2) t2⟩

def sp_nested : Sp := sp2 fun x y H Q _ => ∃ (w : List Nat) (gs : List Gt) (g : Gt), x = .str (S w) ∧ TD H y (.tuple (trs (gs ++ [g]))) ∧ isTwo w ∧ gs.length ≤ 100 ∧ ∀ v H', Same H H' → TD H' v (upT (nestT w gs g)).d → Q v H'
theorem ok_nested (T : Txt w K mg) {fd : FuncData} (F : Fn_nested K fd) (hm : mg "_nested" = some (.ref (He.ga K "_nested"))) (c_app : CalR P w K mg base CX0 1 "app" sp_appR)(c_const : CalX P w K mg base CX0 1 "const" sp_const) : CalX P w K mg base CX0 2 "_nested" sp_nested := by
  refine calx0 (k := 1) F hm sc_nested (b_nested F) (fun _ _ _ _ h => sp2_len h) (fun cdv A outer s H vs Q E hr h => ?_)
  obtain ⟨x0, x1, rfl, h⟩ := h
  refine ⟨_, (pss_cons (ps_set (i := 2) sc_nested.nd rfl (Or.inl rfl) (pe_cx c_const hr (by decide) rfl pass0 (pa_cons (pv 0) (pa_cons (pe_ix (ix_TD T.d_LOGIC_KINDS) (pe_gv T.v_LOGIC_KINDS) (pv 0) (fun _ _ => rfl)) pa_nil))))
    (pss_cons (ps_set (i := 3) sc_nested.nd rfl (Or.inl rfl) (pe_ix ix_tup (pv 1) (pe_un un_neg pe_int) (fun _ _ => rfl)))
    (pss_cons (ps_for PassesOwn.never rfl (pi_reversed (by rfl) T.f_reversed (pa_cons (pe_callTy call_lstQ (by rfl) T.f_list (by decide +kernel) (pa_cons (pe_slice sl_tup (pv 1) po_none (po_some (pe_un un_neg pe_int))) pa_nil)) pa_nil)) (pg_name (i := 4) sc_nested.nd rfl (Or.inl rfl))
    (pss_one (ps_set (i := 3) sc_nested.nd rfl (Or.inl rfl) (pe_cr c_app hr (by decide) rfl pass0 (pa_cons (pv 2) (pa_cons (pv 4) (pa_cons (pv 3) pa_nil)))))))
    (pss_one (ps_ret (pv 3)))))), ?_⟩
  rw [show start ["sign", "formulas", "joint", "result", "formula"] [x0, x1] = [some x0, some x1, none, none, none] from rfl]
  obtain ⟨w, gs, g, rfl, hy, hw, hl, hQ⟩ := h
  obtain ⟨ew, hw2⟩ := lkT_two hw
  obtain ⟨p, hp, ep, tp⟩ := lk_get T hw2
  rw [show trs (gs ++ [g]) = trs gs ++ [(upT g).d] from by unfold trs; rw [List.map_append]; rfl] at hy
  try dsimp only [cxOf]
  walk_at "v"
  refine ⟨p, hp, rfl, by rw [ep], ?_⟩
  walk_at "v"
  refine ⟨_, _, rfl, w, .to bK (.to bK bK), rfl, by rw [← ew]; exact tp H, fun v1 H1 s1 t1 => ?_⟩
  walk_at "v"
  have hy1 := hy.tm (Tm.same s1)
  refine t_ixLast hy1 (fun y1 ty1 => ?_)
  walk_at "v"
  refine w_iRev ?_
  walk_at "v"
  refine t_init hy1 (fun z2 H2 s2 t2 => ?_)
  walk_at "v"
  refine l_ofT t2 (fun q H3 hq s3 d3 => ?_)
  walk_at "v"
  obtain ⟨xs, eq, tq⟩ := d3
  have lx : xs.length = gs.length := by rw [tq.len]; exact List.length_map ..
  refine ⟨q, xs, rfl, SqL.of eq, ?_⟩
  have s23 := s2.tr s3
  refine for_rev (xs := xs) (fun i σ H' => ∃ (u : V) (v4 : Option V), σ = [some (.str (S w)), some x1, some v1, some u, v4] ∧ Same H3 H' ∧ TD H' u (upT (nestT w (gs.drop (gs.length - i)) g)).d)
    ⟨y1, _, rfl, Same.refl' _, by rw [Nat.sub_zero, List.drop_length]; exact ty1.tm (Tm.same s23)⟩ (fun i σ H' _ h => by obtain ⟨_, _, _, h, _⟩ := h; exact SqL.of (h _ _ eq)) ?_ ?_
  · rintro i x σ G hx2 hi ⟨u, v4, rfl, sg, tu⟩
    obtain ⟨d, ed, td⟩ := (tq.tm (Tm.same sg)).get' hx2
    have hlt : gs.length - (i + 1) < gs.length := by omega
    have ei := List.getElem?_eq_getElem hlt
    generalize gs[gs.length - (i + 1)] = k at ei
    rw [show xs.length - 1 - i = gs.length - (i + 1) by omega] at ed
    unfold trs at ed
    rw [List.getElem?_map, ei] at ed
    have ed : (upT k).d = d := Option.some.inj ed
    subst ed
    dsimp only [gName]
    walk_at "v"
    refine ⟨.tip (.cst w (.to bK (.to bK bK))), [k, nestT w (gs.drop (gs.length - i)) g], _, _, rfl, t1.tm ((Tm.same s23).tr (Tm.same sg)), .cons td (.cons tu .nil), Nat.le_of_ble_eq_true rfl, fun z G1 s1' t1' => ?_⟩
    walk_at "v"
    refine ⟨z, _, rfl, sg.tr s1', ?_⟩
    rw [nest_drop w gs g ei, show gs.length - (i + 1) + 1 = gs.length - i by omega]
    exact t1'
  · rintro σ G ⟨u, v4, rfl, sg, tu⟩
    rw [lx, Nat.sub_self, List.drop_zero] at tu
    walk_at "v"
    exact hQ u G ((s1.tr s23).tr sg) tu

def sp_conjunction0 : Sp := sp1 fun x H Q _ => ∃ (gs : List Gt) (g : Gt), TD H x (.tuple (trs (gs ++ [g]))) ∧ gs.length ≤ 100 ∧ ∀ v H', Same H H' → TD H' v (upT (nestT gAND gs g)).d → Q v H'
def sp_conjunction : Sp := fun vs H Q _ => ∃ (gs : List Gt) (g : Gt), TDs H vs (trs (gs ++ [g])) ∧ gs.length ≤ 100 ∧ ∀ v H', Same H H' → TD H' v (upT (nestT gAND gs g)).d → Q v H'
theorem sc2_conjunction : FnScope ["formulas"] ["formulas"] (defScope s_conjunction) := ⟨rfl, rfl, rfl, by decide +kernel, rfl, by decide +kernel, by decide +kernel⟩
theorem ok_conjunction (T : Txt w K mg) {fd : FuncData} (F : Fn_conjunction K fd) (hm : mg "conjunction" = some (.ref (He.ga K "conjunction"))) (c_nested : CalX P w K mg base CX0 2 "_nested" sp_nested) : CalR P w K mg base CX0 3 "conjunction" (sp_conjunction) := by
  refine CalR.imp (calrS (ps := []) (pv := "formulas") (k := 2) (sp := sp_conjunction0) F hm sc2_conjunction (fun kV doc pm an cdv ct us rest hl => match us, rest, hl with | [], [], _ => by kernel_rfl | [], r :: rs, _ => by kernel_rfl) (fun cdv A outer s H vs Q E hr h => ?_)) (fun vs H Q E ⟨gs, g, hv, hl, hQ⟩ => ⟨[], vs, rfl, rfl, by rw [hv.len]; unfold trs; rw [List.length_map, List.length_append]; show gs.length + 1 ≤ 4096; omega, fun p H' hp s e => ⟨_, rfl, gs, g, .tup (.inl e) (hv.tm (Tm.same s)), hl, fun u H2 s2 t2 => hQ u H2 (s.tr s2) t2⟩⟩)
  obtain ⟨x0, rfl, h⟩ := h
  refine ⟨_, (pss_one (ps_ret (pe_cx c_nested hr (by decide) rfl pass0 (pa_cons pe_str (pa_cons (pv 0) pa_nil))))), ?_⟩
  rw [show start ["formulas"] [x0] = [some x0] from rfl]
  have ec0 : Str.ofString "&" = S [38] := S_ofs (by decide +kernel)
  rw [ec0]
  obtain ⟨gs, g, hx, hl, hQ⟩ := h
  try dsimp only [cxOf]
  walk_at "v"
  exact ⟨_, _, rfl, gAND, gs, g, rfl, hx, .inl rfl, hl, hQ⟩

def sp_disjunction0 : Sp := sp1 fun x H Q _ => ∃ (gs : List Gt) (g : Gt), TD H x (.tuple (trs (gs ++ [g]))) ∧ gs.length ≤ 100 ∧ ∀ v H', Same H H' → TD H' v (upT (nestT gOR gs g)).d → Q v H'
def sp_disjunction : Sp := fun vs H Q _ => ∃ (gs : List Gt) (g : Gt), TDs H vs (trs (gs ++ [g])) ∧ gs.length ≤ 100 ∧ ∀ v H', Same H H' → TD H' v (upT (nestT gOR gs g)).d → Q v H'
theorem sc2_disjunction : FnScope ["formulas"] ["formulas"] (defScope s_disjunction) := ⟨rfl, rfl, rfl, by decide +kernel, rfl, by decide +kernel, by decide +kernel⟩
theorem ok_disjunction (T : Txt w K mg) {fd : FuncData} (F : Fn_disjunction K fd) (hm : mg "disjunction" = some (.ref (He.ga K "disjunction"))) (c_nested : CalX P w K mg base CX0 2 "_nested" sp_nested) : CalR P w K mg base CX0 3 "disjunction" (sp_disjunction) := by
  refine CalR.imp (calrS (ps := []) (pv := "formulas") (k := 2) (sp := sp_disjunction0) F hm sc2_disjunction (fun kV doc pm an cdv ct us rest hl => match us, rest, hl with | [], [], _ => by kernel_rfl | [], r :: rs, _ => by kernel_rfl) (fun cdv A outer s H vs Q E hr h => ?_)) (fun vs H Q E ⟨gs, g, hv, hl, hQ⟩ => ⟨[], vs, rfl, rfl, by rw [hv.len]; unfold trs; rw [List.length_map, List.length_append]; show gs.length + 1 ≤ 4096; omega, fun p H' hp s e => ⟨_, rfl, gs, g, .tup (.inl e) (hv.tm (Tm.same s)), hl, fun u H2 s2 t2 => hQ u H2 (s.tr s2) t2⟩⟩)
  obtain ⟨x0, rfl, h⟩ := h
  refine ⟨_, (pss_one (ps_ret (pe_cx c_nested hr (by decide) rfl pass0 (pa_cons pe_str (pa_cons (pv 0) pa_nil))))), ?_⟩
  rw [show start ["formulas"] [x0] = [some x0] from rfl]
  have ec0 : Str.ofString "|" = S [124] := S_ofs (by decide +kernel)
  rw [ec0]
  obtain ⟨gs, g, hx, hl, hQ⟩ := h
  try dsimp only [cxOf]
  walk_at "v"
  exact ⟨_, _, rfl, gOR, gs, g, rfl, hx, .inr (.inl rfl), hl, hQ⟩

def sp_implication0 : Sp := sp1 fun x H Q _ => ∃ (gs : List Gt) (g : Gt), TD H x (.tuple (trs (gs ++ [g]))) ∧ gs.length ≤ 100 ∧ ∀ v H', Same H H' → TD H' v (upT (nestT gIMP gs g)).d → Q v H'
def sp_implication : Sp := fun vs H Q _ => ∃ (gs : List Gt) (g : Gt), TDs H vs (trs (gs ++ [g])) ∧ gs.length ≤ 100 ∧ ∀ v H', Same H H' → TD H' v (upT (nestT gIMP gs g)).d → Q v H'
theorem sc2_implication : FnScope ["formulas"] ["formulas"] (defScope s_implication) := ⟨rfl, rfl, rfl, by decide +kernel, rfl, by decide +kernel, by decide +kernel⟩
theorem ok_implication (T : Txt w K mg) {fd : FuncData} (F : Fn_implication K fd) (hm : mg "implication" = some (.ref (He.ga K "implication"))) (c_nested : CalX P w K mg base CX0 2 "_nested" sp_nested) : CalR P w K mg base CX0 3 "implication" (sp_implication) := by
  refine CalR.imp (calrS (ps := []) (pv := "formulas") (k := 2) (sp := sp_implication0) F hm sc2_implication (fun kV doc pm an cdv ct us rest hl => match us, rest, hl with | [], [], _ => by kernel_rfl | [], r :: rs, _ => by kernel_rfl) (fun cdv A outer s H vs Q E hr h => ?_)) (fun vs H Q E ⟨gs, g, hv, hl, hQ⟩ => ⟨[], vs, rfl, rfl, by rw [hv.len]; unfold trs; rw [List.length_map, List.length_append]; show gs.length + 1 ≤ 4096; omega, fun p H' hp s e => ⟨_, rfl, gs, g, .tup (.inl e) (hv.tm (Tm.same s)), hl, fun u H2 s2 t2 => hQ u H2 (s.tr s2) t2⟩⟩)
  obtain ⟨x0, rfl, h⟩ := h
  refine ⟨_, (pss_one (ps_ret (pe_cx c_nested hr (by decide) rfl pass0 (pa_cons pe_str (pa_cons (pv 0) pa_nil))))), ?_⟩
  rw [show start ["formulas"] [x0] = [some x0] from rfl]
  have ec0 : Str.ofString "=>" = S [61,62] := S_ofs (by decide +kernel)
  rw [ec0]
  obtain ⟨gs, g, hx, hl, hQ⟩ := h
  try dsimp only [cxOf]
  walk_at "v"
  exact ⟨_, _, rfl, gIMP, gs, g, rfl, hx, .inr (.inr rfl), hl, hQ⟩

def sp_quantified : Sp := sp4 fun x y z u H Q _ => ∃ (wd w : List Nat) (k : Kd) (g : Gt), x = .str (S wd) ∧ y = .str (S w) ∧ TD H z k.d ∧ TD H u (upT g).d ∧ g.gok ∧ g.dep ≤ 130 ∧ isName w = true ∧ GK k ∧
  ∀ v H', Same H H' → TD H' v (upT (.app (.tip (.cst wd (.to (.to k bK) bK))) (.lam k (subT (absL w k) g 0)))).d → Q v H'
theorem ok_quantified (T : Txt w K mg) {fd : FuncData} (F : Fn_quantified K fd) (hm : mg "_quantified" = some (.ref (He.ga K "_quantified"))) (c_app : CalR P w K mg base CX0 1 "app" sp_appR)(c_fun_kind : CalR P w K mg base CX0 1 "fun_kind" sp_fkR)(c_const : CalX P w K mg base CX0 1 "const" sp_const)(c_lam : CalX P w K mg base CX0 133 "lam" sp_lam) : CalX P w K mg base CX0 134 "_quantified" sp_quantified := by
  refine calx0 (k := 133) F hm sc_quantified (b_quantified F) (fun _ _ _ _ h => sp4_len h) (fun cdv A outer s H vs Q E hr h => ?_)
  obtain ⟨x0, x1, x2, x3, rfl, h⟩ := h
  refine ⟨_, (pss_cons (ps_set (i := 4) sc_quantified.nd rfl (Or.inl rfl) (pe_cx c_const hr (by decide) rfl pass0 (pa_cons (pv 0) (pa_cons (pe_cr c_fun_kind hr (by decide) rfl pass0 (pa_cons (pe_cr c_fun_kind hr (by decide) rfl pass0 (pa_cons (pv 2) (pa_cons (pe_gv T.v_BOOL) pa_nil))) (pa_cons (pe_gv T.v_BOOL) pa_nil))) pa_nil))))
    (pss_one (ps_ret (pe_cr c_app hr (by decide) rfl pass0 (pa_cons (pv 4) (pa_cons (pe_cx c_lam hr (by decide) rfl pass0 (pa_cons (pv 1) (pa_cons (pv 2) (pa_cons (pv 3) pa_nil)))) pa_nil)))))), ?_⟩
  rw [show start ["word", "name", "kind", "p", "binder"] [x0, x1, x2, x3] = [some x0, some x1, some x2, some x3, none] from rfl]
  obtain ⟨wd, w, k, g, rfl, rfl, hz, hu, hg, hd, hw, hk, hQ⟩ := h
  try dsimp only [cxOf]
  walk_at "v"
  refine ⟨[k], bK, .cons hz (.cons (tBOOL T _) .nil), Nat.le_of_ble_eq_true rfl, fun v1 H1 s1 t1 => ?_⟩
  walk_at "v"
  refine ⟨[.to k bK], bK, .cons t1 (.cons (tBOOL T _) .nil), Nat.le_of_ble_eq_true rfl, fun v2 H2 s2 t2 => ?_⟩
  walk_at "v"
  refine ⟨_, _, rfl, wd, .to (.to k bK) bK, rfl, t2, fun v3 H3 s3 t3 => ?_⟩
  walk_at "v"
  have s03 := (s1.tr s2).tr s3
  refine ⟨_, _, _, rfl, g, w, k, rfl, hz.tm (Tm.same s03), hu.tm (Tm.same s03), hg, hd, hw, hk, fun v4 H4 s4 t4 => ?_⟩
  walk_at "v"
  exact ⟨.tip (.cst wd (.to (.to k bK) bK)), [.lam k (subT (absL w k) g 0)], _, _, rfl, t3.tm (Tm.same s4), .cons t4 .nil, Nat.le_of_ble_eq_true rfl, fun u H5 s5 t5 => hQ u H5 ((s03.tr s4).tr s5) t5⟩

def sp_for_all : Sp := sp3 fun y z u H Q _ => ∃ (w : List Nat) (k : Kd) (g : Gt), y = .str (S w) ∧ TD H z k.d ∧ TD H u (upT g).d ∧ g.gok ∧ g.dep ≤ 130 ∧ isName w = true ∧ GK k ∧
  ∀ v H', Same H H' → TD H' v (upT (.app (.tip (.cst gALL (.to (.to k bK) bK))) (.lam k (subT (absL w k) g 0)))).d → Q v H'
theorem ok_for_all (T : Txt w K mg) {fd : FuncData} (F : Fn_for_all K fd) (hm : mg "for_all" = some (.ref (He.ga K "for_all"))) (c_quantified : CalX P w K mg base CX0 134 "_quantified" sp_quantified) : CalX P w K mg base CX0 135 "for_all" sp_for_all := by
  refine calx0 (k := 134) F hm sc_for_all (b_for_all F) (fun _ _ _ _ h => sp3_len h) (fun cdv A outer s H vs Q E hr h => ?_)
  obtain ⟨x0, x1, x2, rfl, h⟩ := h
  refine ⟨_, (pss_one (ps_ret (pe_cx c_quantified hr (by decide) rfl pass0 (pa_cons pe_str (pa_cons (pv 0) (pa_cons (pv 1) (pa_cons (pv 2) pa_nil))))))), ?_⟩
  rw [show start ["name", "kind", "p"] [x0, x1, x2] = [some x0, some x1, some x2] from rfl]
  have ec0 : Str.ofString "all" = S [97,108,108] := S_ofs (by decide +kernel)
  rw [ec0]
  obtain ⟨w, k, g, rfl, hz, hu, hg, hd, hw, hk, hQ⟩ := h
  try dsimp only [cxOf]
  walk_at "v"
  exact ⟨_, _, _, _, rfl, gALL, w, k, g, rfl, rfl, hz, hu, hg, hd, hw, hk, hQ⟩

def sp_for_some : Sp := sp3 fun y z u H Q _ => ∃ (w : List Nat) (k : Kd) (g : Gt), y = .str (S w) ∧ TD H z k.d ∧ TD H u (upT g).d ∧ g.gok ∧ g.dep ≤ 130 ∧ isName w = true ∧ GK k ∧
  ∀ v H', Same H H' → TD H' v (upT (.app (.tip (.cst gSOME (.to (.to k bK) bK))) (.lam k (subT (absL w k) g 0)))).d → Q v H'
theorem ok_for_some (T : Txt w K mg) {fd : FuncData} (F : Fn_for_some K fd) (hm : mg "for_some" = some (.ref (He.ga K "for_some"))) (c_quantified : CalX P w K mg base CX0 134 "_quantified" sp_quantified) : CalX P w K mg base CX0 135 "for_some" sp_for_some := by
  refine calx0 (k := 134) F hm sc_for_some (b_for_some F) (fun _ _ _ _ h => sp3_len h) (fun cdv A outer s H vs Q E hr h => ?_)
  obtain ⟨x0, x1, x2, rfl, h⟩ := h
  refine ⟨_, (pss_one (ps_ret (pe_cx c_quantified hr (by decide) rfl pass0 (pa_cons pe_str (pa_cons (pv 0) (pa_cons (pv 1) (pa_cons (pv 2) pa_nil))))))), ?_⟩
  rw [show start ["name", "kind", "p"] [x0, x1, x2] = [some x0, some x1, some x2] from rfl]
  have ec0 : Str.ofString "some" = S [115,111,109,101] := S_ofs (by decide +kernel)
  rw [ec0]
  obtain ⟨w, k, g, rfl, hz, hu, hg, hd, hw, hk, hQ⟩ := h
  try dsimp only [cxOf]
  walk_at "v"
  exact ⟨_, _, _, _, rfl, gSOME, w, k, g, rfl, rfl, hz, hu, hg, hd, hw, hk, hQ⟩

def sp_equation : Sp := sp2 fun x y H Q _ => ∃ (f g : Gt) (k : Kd), TD H x (upT f).d ∧ TD H y (upT g).d ∧ f.dep ≤ 130 ∧ typed f [] = some k ∧ ∀ v H', Same H H' → TD H' v (upT (.app (.app (.tip (.cst gEQ (.to k (.to k bK)))) f) g)).d → Q v H'
theorem ok_equation (T : Txt w K mg) {fd : FuncData} (F : Fn_equation K fd) (hm : mg "equation" = some (.ref (He.ga K "equation"))) (c_app : CalR P w K mg base CX0 1 "app" sp_appR)(c_fun_kind : CalR P w K mg base CX0 1 "fun_kind" sp_fkR)(c_const : CalX P w K mg base CX0 1 "const" sp_const)(c_kind_within : CalX P w K mg base CX0 131 "kind_within" (sp_kw 130)) : CalX P w K mg base CX0 132 "equation" sp_equation := by
  refine calx0 (k := 131) F hm sc_equation (b_equation F) (fun _ _ _ _ h => sp2_len h) (fun cdv A outer s H vs Q E hr h => ?_)
  obtain ⟨x0, x1, rfl, h⟩ := h
  refine ⟨_, (pss_cons (ps_set (i := 2) sc_equation.nd rfl (Or.inl rfl) (pe_cx c_kind_within hr (by decide) rfl pass0 (pa_cons (pv 0) (pa_cons (pe_tup pa_nil) pa_nil))))
    (pss_one (ps_ret (pe_cr c_app hr (by decide) rfl pass0 (pa_cons (pe_cx c_const hr (by decide) rfl pass0 (pa_cons pe_str (pa_cons (pe_cr c_fun_kind hr (by decide) rfl pass0 (pa_cons (pv 2) (pa_cons (pv 2) (pa_cons (pe_gv T.v_BOOL) pa_nil)))) pa_nil))) (pa_cons (pv 0) (pa_cons (pv 1) pa_nil))))))), ?_⟩
  rw [show start ["left", "right", "kind"] [x0, x1] = [some x0, some x1, none] from rfl]
  have ec0 : Str.ofString "=" = S [61] := S_ofs (by decide +kernel)
  rw [ec0]
  obtain ⟨f, g, k, hx, hy, hd, ht, hQ⟩ := h
  try dsimp only [cxOf]
  walk_at "v"
  refine w_tupN ?_
  walk_at "v"
  refine t_new .nil (fun p1 H1 hp1 s1 t1 => ?_)
  walk_at "v"
  refine ⟨_, _, rfl, f, [], k, hx.tm (Tm.same s1), t1, ht, hd, by decide, fun v2 H2 s2 t2 => ?_⟩
  walk_at "v"
  refine ⟨[k, k], bK, .cons t2 (.cons t2 (.cons (tBOOL T _) .nil)), Nat.le_of_ble_eq_true rfl, fun v3 H3 s3 t3 => ?_⟩
  walk_at "v"
  refine ⟨_, _, rfl, gEQ, .to k (.to k bK), rfl, t3, fun v4 H4 s4 t4 => ?_⟩
  walk_at "v"
  have s04 := ((s1.tr s2).tr s3).tr s4
  exact ⟨.tip (.cst gEQ (.to k (.to k bK))), [f, g], _, _, rfl, t4, .cons (hx.tm (Tm.same s04)) (.cons (hy.tm (Tm.same s04)) .nil), Nat.le_of_ble_eq_true rfl, fun u H5 s5 t5 => hQ u H5 (s04.tr s5) t5⟩

theorem trs_len' (l : List Gt) : (trs l).length = l.length := List.length_map ..
theorem spT_app (f a : Gt) : spT (.app f a) = ((spT f).1, (spT f).2 ++ [a]) := rfl
def sp_spine : Sp := sp1 fun x H Q _ => ∃ g : Gt, TD H x (upT g).d ∧ g.nodes ≤ 1000 ∧ ∀ v H', Same H H' → TD H' v (spD g) → Q v H'
theorem ok_spine (T : Txt w K mg) {fd : FuncData} (F : Fn_spine K fd) (hm : mg "spine" = some (.ref (He.ga K "spine")))  : CalX P w K mg base CX0 1 "spine" sp_spine := by
  refine calx0 (k := 0) F hm sc_spine (b_spine F) (fun _ _ _ _ h => sp1_len h) (fun cdv A outer s H vs Q E hr h => ?_)
  obtain ⟨x0, rfl, h⟩ := h
  refine ⟨_, (pss_cons (ps_set (i := 1) sc_spine.nd rfl (Or.inl rfl) (pe_lst pa_nil))
    (pss_cons (ps_set (i := 2) sc_spine.nd rfl (Or.inl rfl) (pv 0))
    (pss_cons (ps_while PassesOwn.never (pt_cmpR op_eq (pe_ix ix_tup (pv 2) pe_int (fun _ _ => rfl)) pe_str (nomark _))
    (pss_cons (ps_expr (pe_bm PySem.F.plainAttrs_list PySem.F.slot_list_append PySem.F.type_list_append mt_append (pv 1) (pa_cons (pe_ix ix_tup (pv 2) pe_int (fun _ _ => rfl)) pa_nil)))
    (pss_one (ps_set (i := 2) sc_spine.nd rfl (Or.inl rfl) (pe_ix ix_tup (pv 2) pe_int (fun _ _ => rfl))))))
    (pss_one (ps_ret (pe_tup (pa_cons (pv 2) (pa_cons (pe_callTy call_tupL (by rfl) T.f_tuple (by decide +kernel) (pa_cons (pe_revL (pv 1)) pa_nil)) pa_nil)))))))), ?_⟩
  rw [show start ["term", "arguments", "head"] [x0] = [some x0, none, none] from rfl]
  have ec0 : Str.ofString "app" = S [97,112,112] := S_ofs (by decide +kernel)
  rw [ec0]
  obtain ⟨g, hx, hn, hQ⟩ := h
  try dsimp only [cxOf]
  walk_at "v"
  refine ev_lst (ds := trs []) (by walk_at "d") (fun ar H1 har s1 d1 => ?_)
  walk_at "v"
  refine ⟨fun m σ H' => ∃ (g' : Gt) (as : List Gt) (u : V), σ = [some x0, some (.ref ar), some u] ∧ m = g'.nodes ∧ Same H H' ∧ TD H' u (upT g').d ∧ DL H' ar (trs as) ∧ spT g = ((spT g').1, (spT g').2 ++ as.reverse) ∧ as.length + g'.nodes ≤ 1000,
    ⟨_, g, [], x0, rfl, rfl, s1, hx.tm (Tm.same s1), d1, by rw [List.reverse_nil, List.append_nil], by show 0 + g.nodes ≤ 1000; omega⟩, ?_⟩
  rintro m σ G ⟨g', as, u, rfl, rfl, sg, tu, da, esp, hl⟩
  walk_at "v"
  have out : spT g = (g', as.reverse) → (tRet (tTup (tCons (tVar 2) (tCons (tCB (rTupL K) (tCons (tRevL K (tVar 1)) tNil)) tNil)))) { nx := fun x H' => Q .non H', rt := Q } [some x0, some (.ref ar), some u] G := fun e => by
    walk_at "v"
    refine w_tupN ?_
    walk_at "v"
    obtain ⟨axs, ea, ta⟩ := da
    refine ⟨ar, axs, rfl, SqL.of ea, fun q hq => ?_⟩
    have s2 := same_upd (o := .lst axs.reverse) hq
    have d2 : DL (upd G q (.lst axs.reverse)) q (trs as).reverse := ⟨_, upd_same, ta.rev.tm (Tm.same s2)⟩
    walk_at "v"
    refine t_ofL d2 (fun z H3 s3 t3 => ?_)
    walk_at "v"
    have tz : TD H3 z (.tuple (trs as.reverse)) := by unfold trs; rw [List.map_reverse]; exact t3
    refine t_new (ds := [(upT g').d, .tuple (trs as.reverse)]) (.cons (tu.tm (Tm.same (s2.tr s3))) (.cons tz .nil)) (fun r H4 hr4 s4 t4 => ?_)
    refine hQ _ H4 (((sg.tr s2).tr s3).tr s4) ?_
    unfold spD
    rw [e]; exact t4
  cases g' with
  | app f a =>
    have tu' : TD G u (.tuple [.str (S wAPP), (upT f).d, (upT a).d]) := tu
    have hl : as.length + (f.nodes + a.nodes + 1) ≤ 1000 := hl
    refine t_ixS (n := 0) tu' rfl ?_
    walk_at "v"
    rw [show decide (wAPP = [97, 112, 112]) = true from by decide]
    walk_at "v"
    refine ⟨fun σ' H' => ∃ m', m' < (Tr.app f a).nodes ∧ ∃ (g' : Gt) (as : List Gt) (u : V), σ' = [some x0, some (.ref ar), some u] ∧ m' = g'.nodes ∧ Same H H' ∧ TD H' u (upT g').d ∧ DL H' ar (trs as) ∧ spT g = ((spT g').1, (spT g').2 ++ as.reverse) ∧ as.length + g'.nodes ≤ 1000, fun _ _ h => h, ?_⟩
    walk_at "v"
    refine l_ty da ?_
    walk_at "v"
    refine t_ix (n := 2) tu' rfl (fun y ty => ?_)
    walk_at "v"
    refine l_app da ty (fun H2 d2 x2 => ?_) (by rw [trs_len']; omega)
    obtain ⟨_, dl⟩ := da.lst
    walk_at "v"
    refine t_ix (n := 1) (tu'.tm (Tm.ex dl x2)) rfl (fun z tz => ?_)
    walk_at "v"
    refine ⟨f.nodes, by show f.nodes < f.nodes + a.nodes + 1; omega, f, as ++ [a], z, rfl, rfl, sg.ex har x2, tz, by unfold trs; rw [List.map_append]; exact d2, ?_, by rw [List.length_append]; show as.length + 1 + f.nodes ≤ 1000; omega⟩
    rw [esp, spT_app, List.reverse_append, List.append_assoc]; rfl
  | lam j b =>
    have tu' : TD G u (.tuple [.str (S wLAM), j.d, (upT b).d]) := tu
    refine t_ixS (n := 0) tu' rfl ?_
    walk_at "v"
    rw [show decide (wLAM = [97, 112, 112]) = false from by decide]
    walk_at "v"
    exact out esp
  | tip y =>
    obtain ⟨rest, ed⟩ := gw_d (.tip y)
    have m12 := gw_tip y
    have tu' : TD G u (.tuple (.str (S (gw (.tip y))) :: rest)) := by rw [← ed]; exact tu
    refine t_ixS (n := 0) tu' rfl ?_
    walk_at "v"
    rw [show decide (gw (.tip y) = [97, 112, 112]) = false from decide_eq_false m12.1]
    walk_at "v"
    exact out esp
end
end K03

namespace K03
open PySem PySem.Spec PyProof.Rows L2 SX K02 K01
local macro_rules | `(tactic| walk_at "w1") => `(tactic| (first
  | with_reducible refine w_seq ?_ | with_reducible refine w_asgN ?_ | with_reducible refine w_c ?_
  | ((with_reducible refine' w_var ?wv ?_); (case wv => exact rfl))
  | with_reducible refine w_op ?_ | with_reducible refine w_un ?_ | with_reducible refine w_next ?_ | with_reducible refine w_brk ?_ | with_reducible refine w_cnt ?_
  | with_reducible refine w_ifS ?_ | with_reducible refine w_if ?_ | with_reducible refine w_test ?_ | with_reducible refine w_tB ?_ | with_reducible refine w_bl ?_ | with_reducible refine w_blI ?_
  | with_reducible refine w_and ?_ | with_reducible refine w_or ?_ | with_reducible refine w_not ?_ | with_reducible refine w_andV ?_ | with_reducible refine w_orV ?_ | with_reducible refine w_notV ?_
  | with_reducible refine w_nil ?_ | with_reducible refine w_cons ?_ | with_reducible refine w_cb ?_ | with_reducible refine w_call ?_ | with_reducible refine w_callS ?_ | with_reducible refine w_chain ?_
  | with_reducible refine w_tupN ?_ | with_reducible refine w_lstN ?_ | with_reducible refine w_sl ?_ | with_reducible refine w_noPart ?_ | with_reducible refine w_part ?_ | with_reducible refine w_partI ?_
  | with_reducible refine w_ret ?_ | with_reducible refine w_retN ?_ | with_reducible refine w_drop ?_ | with_reducible refine w_asg ?_ | with_reducible refine w_gSub ?_
  | ((with_reducible refine' w_aug ?wv ?_); (case wv => exact rfl)) | with_reducible refine w_ipI ?_
  | with_reducible refine w_addI ?_ | with_reducible refine w_subI ?_ | with_reducible refine w_ltI ?_ | with_reducible refine w_leI ?_ | with_reducible refine w_gtI ?_ | with_reducible refine w_geI ?_
  | with_reducible refine w_eqI ?_ | with_reducible refine w_neI ?_ | with_reducible refine w_eqT ?_ | with_reducible refine w_neT ?_ | with_reducible refine w_inS ?_ | with_reducible refine w_ninS ?_
  | with_reducible refine w_absI ?_ | with_reducible refine w_intI ?_ | with_reducible refine w_maxI ?_ | with_reducible refine w_minI ?_
  | with_reducible refine w_for ?_ | with_reducible refine w_iR1 ?_ | with_reducible refine w_iR2 ?_ | with_reducible refine w_iStr ?_ | with_reducible refine w_strI ?_ | with_reducible refine w_iList ?_ | with_reducible refine w_iTup ?_
  | with_reducible refine w_bm ?_ | with_reducible refine w_bm0 ?_ | with_reducible refine w_t ?_ | with_reducible refine w_f ?_ | with_reducible refine w_nt ?_ | with_reducible refine w_nx ?_ | with_reducible refine w_rt ?_ | with_reducible refine w_bk ?_ | with_reducible refine w_ct ?_ | with_reducible refine w_nf ?_ | with_reducible refine w_lc ?_ | with_reducible refine w_yes ?_ | with_reducible refine w_neg ?_ | with_reducible refine w_intB ?_ | with_reducible refine w_fld ?_ | with_reducible refine w_setf ?_ | with_reducible refine w_faug ?_ | with_reducible refine w_meth ?_ | with_reducible refine w_bmS ?_ | with_reducible refine w_start ?_ | with_reducible refine w_revL ?_ | with_reducible refine w_iR3 ?_))
local macro_rules | `(tactic| walk_at "w") => `(tactic| (repeat (first | walk_at "w1" | dsimp (config := { proj := false }) only [List.set_cons_zero, List.set_cons_succ])))
section
variable {w : World} [Lit] {mg : Str → Option Value} {base : Heap}
local macro_rules | `(tactic| walk_at "v1") => `(tactic| (first
  | with_reducible refine w_seq ?_ | with_reducible refine w_asgN ?_ | with_reducible refine w_c ?_
  | ((with_reducible refine' w_var ?wv ?_); (case wv => exact rfl))
  | with_reducible refine w_op ?_ | with_reducible refine w_un ?_ | with_reducible refine w_next ?_ | with_reducible refine w_brk ?_ | with_reducible refine w_cnt ?_
  | with_reducible refine w_ifS ?_ | with_reducible refine w_if ?_ | with_reducible refine w_test ?_ | with_reducible refine w_tB ?_ | with_reducible refine w_bl ?_ | with_reducible refine w_blI ?_
  | with_reducible refine w_and ?_ | with_reducible refine w_or ?_ | with_reducible refine w_not ?_ | with_reducible refine w_andV ?_ | with_reducible refine w_orV ?_ | with_reducible refine w_notV ?_
  | with_reducible refine w_nil ?_ | with_reducible refine w_cons ?_ | with_reducible refine w_cb ?_ | with_reducible refine w_call ?_ | with_reducible refine w_callS ?_ | with_reducible refine w_chain ?_
  | with_reducible refine w_sl ?_ | with_reducible refine w_noPart ?_ | with_reducible refine w_part ?_ | with_reducible refine w_partI ?_
  | with_reducible refine w_ret ?_ | with_reducible refine w_retN ?_ | with_reducible refine w_drop ?_ | with_reducible refine w_asg ?_ | with_reducible refine w_gSub ?_
  | ((with_reducible refine' w_aug ?wv ?_); (case wv => exact rfl)) | with_reducible refine w_ipI ?_
  | with_reducible refine w_addI ?_ | with_reducible refine w_subI ?_ | with_reducible refine w_ltI ?_ | with_reducible refine w_leI ?_ | with_reducible refine w_gtI ?_ | with_reducible refine w_geI ?_
  | with_reducible refine w_eqI ?_ | with_reducible refine w_neI ?_ | with_reducible refine w_eqT ?_ | with_reducible refine w_neT ?_ | with_reducible refine w_inS ?_ | with_reducible refine w_ninS ?_
  | with_reducible refine w_absI ?_ | with_reducible refine w_intI ?_ | with_reducible refine w_maxI ?_ | with_reducible refine w_minI ?_
  | with_reducible refine w_for ?_ | with_reducible refine w_iR1 ?_ | with_reducible refine w_iR2 ?_ | with_reducible refine w_iStr ?_ | with_reducible refine w_strI ?_ | with_reducible refine w_iList ?_ | with_reducible refine w_iTup ?_
  | with_reducible refine w_bm ?_ | with_reducible refine w_bm0 ?_ | with_reducible refine w_t ?_ | with_reducible refine w_f ?_ | with_reducible refine w_nt ?_ | with_reducible refine w_nx ?_ | with_reducible refine w_rt ?_ | with_reducible refine w_bk ?_ | with_reducible refine w_ct ?_ | with_reducible refine w_nf ?_ | with_reducible refine w_lc ?_ | with_reducible refine w_yes ?_ | with_reducible refine w_neg ?_ | with_reducible refine w_intB ?_ | with_reducible refine w_fld ?_ | with_reducible refine w_setf ?_ | with_reducible refine w_faug ?_ | with_reducible refine w_meth ?_ | with_reducible refine w_bmS ?_ | with_reducible refine w_start ?_ | with_reducible refine w_revL ?_ | with_reducible refine w_iR3 ?_))
local macro_rules | `(tactic| walk_at "v") => `(tactic| (repeat (first | walk_at "v1" | dsimp (config := { proj := false }) only [List.set_cons_zero, List.set_cons_succ])))
local macro_rules | `(tactic| walk_at "d") => `(tactic| (repeat (first | exact eva_nil | refine eva_cons ?_ ?_ | exact ev_str | exact ev_int | exact ev_neg | refine ev_tup ?_ | exact ev_var rfl (.str _) | exact ev_var rfl (.int _) | (refine ev_var rfl ?_; assumption))))


abbrev wOTHER : List Nat := [111,116,104,101,114]
def otT (g : Gt) : PyData := .tuple [.str (S wOTHER), (upT g).d]
def rdH (h : Gt) (as : List Gt) (g : Gt) : PyData := match h with
  | .tip (.cst w _) => if w ∈ LOGIC ∧ as.length = rdN w then .tuple (.str (S (rdW w)) :: trs as) else otT g
  | _ => otT g
def rdT (g : Gt) : PyData := rdH (spT g).1 (spT g).2 g
theorem sp_head : ∀ g : Gt, ∀ f a : Gt, (spT g).1 ≠ .app f a
  | .app x y, f, a => sp_head x f a
  | .lam k b, f, a => fun z => by cases z
  | .tip x, f, a => fun z => by cases z
theorem sp_lg : ∀ g : Gt, lgT g → lgT (spT g).1
  | .app x y, h => sp_lg x h.1
  | .lam k b, h => h
  | .tip x, h => h
theorem sp_gok : ∀ g : Gt, g.gok → (spT g).1.gok
  | .app x y, h => sp_gok x h.1
  | .lam k b, h => h
  | .tip x, h => h
theorem sp_len : ∀ g : Gt, (spT g).2.length + 1 ≤ g.nodes
  | .app x y => by
    have := sp_len x
    show ((spT x).2 ++ [y]).length + 1 ≤ x.nodes + y.nodes + 1
    rw [List.length_append]; have := nodes_pos y
    show (spT x).2.length + 1 + 1 ≤ _; omega
  | .lam k b => by show 0 + 1 ≤ b.nodes + 1; omega
  | .tip x => Nat.le_refl _
theorem lg_fits {w : List Nat} {k : Kd} (h : lgc (.cst w k)) (z : w ∈ LOGIC) : fitsL w k := h.elim (fun y => by rw [log_noname z] at y; cases y) id
def sp_read_formula : Sp := sp1 fun x H Q _ => ∃ g : Gt, TD H x (upT g).d ∧ g.gok ∧ lgT g ∧ g.nodes ≤ 1000 ∧ ∀ v H', Same H H' → TD H' v (rdT g) → Q v H'
theorem ok_read_formula (T : Txt w K mg) {fd : FuncData} (F : Fn_read_formula K fd) (hm : mg "read_formula" = some (.ref (He.ga K "read_formula"))) (c_spine : CalX P w K mg base CX0 1 "spine" sp_spine)(c_match_kind : CalX P w K mg base CX0 1 "match_kind" sp_match_kind) : CalX P w K mg base CX0 2 "read_formula" sp_read_formula := by
  refine calx0 (k := 1) F hm sc_read_formula (b_read_formula F) (fun _ _ _ _ h => sp1_len h) (fun cdv A outer s H vs Q E hr h => ?_)
  obtain ⟨x0, rfl, h⟩ := h
  refine ⟨_, (pss_cons (ps_asg (pe_cx c_spine hr (by decide) rfl pass0 (pa_cons (pv 0) pa_nil)) (pg_tup (by rfl) (pgs_cons (pg_name (i := 1) sc_read_formula.nd rfl (Or.inl rfl)) (pgs_cons (pg_name (i := 2) sc_read_formula.nd rfl (Or.inl rfl)) pgs_nil))))
    (pss_cons (ps_if (PW.pt (pw_and (pt_cmpR op_eq (pe_ix ix_tup (pv 1) pe_int (fun _ _ => rfl)) pe_str (nomark _)) (pw_and1 (pt_cmpR (op_inTD T.d_LOGIC_KINDS) (pe_ix ix_tup (pv 1) pe_int (fun _ _ => rfl)) (pe_gv T.v_LOGIC_KINDS) rfl))))
    (pss_cons (ps_asg (pe_ix (ix_TD T.d_READ_AS) (pe_gv T.v_READ_AS) (pe_ix ix_tup (pv 1) pe_int (fun _ _ => rfl)) (fun _ _ => rfl)) (pg_tup (by rfl) (pgs_cons (pg_name (i := 3) sc_read_formula.nd rfl (Or.inl rfl)) (pgs_cons (pg_name (i := 4) sc_read_formula.nd rfl (Or.inl rfl)) pgs_nil))))
    (pss_cons (ps_set (i := 5) sc_read_formula.nd rfl (Or.inl rfl) (pe_cmpR op_notN (pe_cx c_match_kind hr (by decide) rfl pass0 (pa_cons (pe_ix (ix_TD T.d_LOGIC_KINDS) (pe_gv T.v_LOGIC_KINDS) (pe_ix ix_tup (pv 1) pe_int (fun _ _ => rfl)) (fun _ _ => rfl)) (pa_cons (pe_ix ix_tup (pv 1) pe_int (fun _ _ => rfl)) pa_nil))) pe_non (nomark _)))
    (pss_one (ps_if (PW.pt (pw_and (pt_cmpR op_eq (pe_callB call_lenQ (by rfl) T.f_len PySem.boot_len (pa_cons (pv 2) pa_nil)) (pv 4) (nomark _)) (pw_and1 (pt_val (pv 5)))))
    (pss_one (ps_ret (pe_op op_catT (pe_tup (pa_cons (pv 3) pa_nil)) (pv 2))))
    pss_nil))))
    pss_nil)
    (pss_one (ps_ret (pe_tup (pa_cons pe_str (pa_cons (pv 0) pa_nil))))))), ?_⟩
  rw [show start ["term", "head", "arguments", "word", "many", "fits"] [x0] = [some x0, none, none, none, none, none] from rfl]
  have ec0 : Str.ofString "other" = S [111,116,104,101,114] := S_ofs (by decide +kernel)
  have ec1 : Str.ofString "const" = S [99,111,110,115,116] := S_ofs (by decide +kernel)
  rw [ec0, ec1]
  obtain ⟨g, hx, hg, hlg, hn, hQ⟩ := h
  try dsimp only [cxOf]
  walk_at "v"
  refine ⟨_, rfl, g, hx, hn, fun v1 H1 s1 t1 => ?_⟩
  walk_at "v"
  obtain ⟨a1, xs, rfl, ha1, txs⟩ := t1.tuple
  obtain ⟨yh, ya, rfl, th, ta⟩ := txs.two
  refine w_un2 rfl ha1 ?_
  walk_at "v"
  have hh := sp_head g
  have hl := sp_lg g hlg
  have hgk := sp_gok g hg
  have hsl := sp_len g
  have eR : rdT g = rdH (spT g).1 (spT g).2 g := rfl
  generalize (spT g).1 = hd at *
  generalize (spT g).2 = as at *
  have oth : ∀ {H' : Hp} {v3 v4 v5 : Option V}, Same H H' → rdH hd as g = otT g → (tRet (tTup (tCons (tC (.str (S wOTHER))) (tCons (tVar 0) tNil)))) { nx := fun x H' => Q .non H', rt := Q } [some x0, some yh, some ya, v3, v4, v5] H' := fun {H' v3 v4 v5} s e => by
    walk_at "v"
    refine w_tupN ?_
    walk_at "v"
    refine t_new (ds := [.str (S wOTHER), (upT g).d]) (.cons (.str _) (.cons (hx.tm (Tm.same s)) .nil)) (fun z H2 hz s2 t2 => ?_)
    refine hQ _ H2 (s.tr s2) ?_
    rw [eR, e]; exact t2
  cases hd with
  | app f a => exact absurd rfl (hh f a)
  | lam j b =>
    have th : TD H1 yh (.tuple [.str (S wLAM), j.d, (upT b).d]) := th
    refine t_ixS (n := 0) th rfl ?_
    walk_at "v"
    rw [show decide (wLAM = [99, 111, 110, 115, 116]) = false from by decide]
    walk_at "v"
    exact oth s1 rfl
  | tip x =>
    cases x with
    | bnd i =>
      have th : TD H1 yh (.tuple [.str (S wBOUND), .int (i : Int)]) := th
      refine t_ixS (n := 0) th rfl ?_
      walk_at "v"
      rw [show decide (wBOUND = [99, 111, 110, 115, 116]) = false from by decide]
      walk_at "v"
      exact oth s1 rfl
    | var w k =>
      have th : TD H1 yh (.tuple [.str (S wVAR), .str (S w), k.d]) := th
      refine t_ixS (n := 0) th rfl ?_
      walk_at "v"
      rw [show decide (wVAR = [99, 111, 110, 115, 116]) = false from by decide]
      walk_at "v"
      exact oth s1 rfl
    | cst w k =>
      have th : TD H1 yh (.tuple [.str (S wCONST), .str (S w), k.d]) := th
      refine t_ixS (n := 0) th rfl ?_
      walk_at "v"
      rw [show decide (wCONST = [99, 111, 110, 115, 116]) = true from by decide]
      walk_at "v"
      refine t_ixS (n := 1) th rfl ?_
      walk_at "v"
      refine ⟨_, rfl, rfl, ?_⟩
      rw [td_in]
      by_cases hw : w ∈ LOGIC
      · rw [decide_eq_true hw]
        walk_at "v"
        refine t_ixS (n := 1) th rfl ?_
        walk_at "v"
        obtain ⟨p, hp, ep, tp⟩ := ra_get T hw
        refine ⟨p, hp, rfl, by rw [ep], ?_⟩
        have tp := tp H1
        obtain ⟨a2, zs, e2, ha2, tzs⟩ := tp.tuple
        obtain ⟨zw, zn, rfl, tzw, tzn⟩ := tzs.two
        rw [tzw.txt, tzn.num] at ha2
        rw [e2]
        walk_at "v"
        refine w_un2 rfl ha2 ?_
        walk_at "v"
        refine t_ixS (n := 1) th rfl ?_
        walk_at "v"
        obtain ⟨p2, hp2, ep2, tp2⟩ := lk_get T hw
        refine ⟨p2, hp2, rfl, by rw [ep2], ?_⟩
        walk_at "v"
        refine t_ix (n := 2) th rfl (fun y3 ty3 => ?_)
        walk_at "v"
        have gk : GK k := hgk.2
        obtain ⟨τ, eτ⟩ := fits_sub (lg_fits hl hw)
        refine ⟨_, _, rfl, lkT w, τ, tp2 H1, by rw [← eτ]; exact ty3, lkT_sz hw, by rw [← eτ]; exact gk, fun am H2 s2 => ?_⟩
        walk_at "v"
        refine ⟨rfl, ?_⟩
        rw [decide_eq_false (fun z => by cases z)]
        walk_at "v"
        have ta2 : TD H2 ya (.tuple (trs as)) := ta.tm (Tm.same s2)
        refine t_len ta2 ?_
        rw [trs_len']
        walk_at "v"
        refine w_dec (fun e1 => ?_) (fun e1 => ?_)
        · walk_at "v"
          refine w_tupN ?_
          walk_at "v"
          refine t_new (ds := [.str (S (rdW w))]) (.cons (.str _) .nil) (fun q3 H3 hq3 s3 t3 => ?_)
          walk_at "v"
          refine t_cat t3 (ta2.tm (Tm.same s3)) (by simp) (fun z H4 s4 t4 => ?_) (by rw [trs_len']; show 1 + as.length ≤ 100000; omega)
          refine hQ z H4 (((s1.tr s2).tr s3).tr s4) ?_
          rw [eR]
          show TD H4 z (if w ∈ LOGIC ∧ as.length = rdN w then _ else _)
          rw [if_pos ⟨hw, by omega⟩]; exact t4
        · walk_at "v"
          refine oth (s1.tr s2) ?_
          show (if w ∈ LOGIC ∧ as.length = rdN w then _ else _) = _
          rw [if_neg (fun z => e1 (by omega))]
      · rw [decide_eq_false hw]
        walk_at "v"
        refine oth s1 ?_
        show (if w ∈ LOGIC ∧ as.length = rdN w then _ else _) = _
        rw [if_neg (fun z => hw z.1)]
end
end K03

namespace K03
open PySem PySem.Spec PyProof.Rows L2 SX K02 K01
local macro_rules | `(tactic| walk_at "w1") => `(tactic| (first
  | with_reducible refine w_seq ?_ | with_reducible refine w_asgN ?_ | with_reducible refine w_c ?_
  | ((with_reducible refine' w_var ?wv ?_); (case wv => exact rfl))
  | with_reducible refine w_op ?_ | with_reducible refine w_un ?_ | with_reducible refine w_next ?_ | with_reducible refine w_brk ?_ | with_reducible refine w_cnt ?_
  | with_reducible refine w_ifS ?_ | with_reducible refine w_if ?_ | with_reducible refine w_test ?_ | with_reducible refine w_tB ?_ | with_reducible refine w_bl ?_ | with_reducible refine w_blI ?_
  | with_reducible refine w_and ?_ | with_reducible refine w_or ?_ | with_reducible refine w_not ?_ | with_reducible refine w_andV ?_ | with_reducible refine w_orV ?_ | with_reducible refine w_notV ?_
  | with_reducible refine w_nil ?_ | with_reducible refine w_cons ?_ | with_reducible refine w_cb ?_ | with_reducible refine w_call ?_ | with_reducible refine w_callS ?_ | with_reducible refine w_chain ?_
  | with_reducible refine w_tupN ?_ | with_reducible refine w_lstN ?_ | with_reducible refine w_sl ?_ | with_reducible refine w_noPart ?_ | with_reducible refine w_part ?_ | with_reducible refine w_partI ?_
  | with_reducible refine w_ret ?_ | with_reducible refine w_retN ?_ | with_reducible refine w_drop ?_ | with_reducible refine w_asg ?_ | with_reducible refine w_gSub ?_
  | ((with_reducible refine' w_aug ?wv ?_); (case wv => exact rfl)) | with_reducible refine w_ipI ?_
  | with_reducible refine w_addI ?_ | with_reducible refine w_subI ?_ | with_reducible refine w_ltI ?_ | with_reducible refine w_leI ?_ | with_reducible refine w_gtI ?_ | with_reducible refine w_geI ?_
  | with_reducible refine w_eqI ?_ | with_reducible refine w_neI ?_ | with_reducible refine w_eqT ?_ | with_reducible refine w_neT ?_ | with_reducible refine w_inS ?_ | with_reducible refine w_ninS ?_
  | with_reducible refine w_absI ?_ | with_reducible refine w_intI ?_ | with_reducible refine w_maxI ?_ | with_reducible refine w_minI ?_
  | with_reducible refine w_for ?_ | with_reducible refine w_iR1 ?_ | with_reducible refine w_iR2 ?_ | with_reducible refine w_iStr ?_ | with_reducible refine w_strI ?_ | with_reducible refine w_iList ?_ | with_reducible refine w_iTup ?_
  | with_reducible refine w_bm ?_ | with_reducible refine w_bm0 ?_ | with_reducible refine w_t ?_ | with_reducible refine w_f ?_ | with_reducible refine w_nt ?_ | with_reducible refine w_nx ?_ | with_reducible refine w_rt ?_ | with_reducible refine w_bk ?_ | with_reducible refine w_ct ?_ | with_reducible refine w_nf ?_ | with_reducible refine w_lc ?_ | with_reducible refine w_yes ?_ | with_reducible refine w_neg ?_ | with_reducible refine w_intB ?_ | with_reducible refine w_fld ?_ | with_reducible refine w_setf ?_ | with_reducible refine w_faug ?_ | with_reducible refine w_meth ?_ | with_reducible refine w_bmS ?_ | with_reducible refine w_start ?_ | with_reducible refine w_revL ?_ | with_reducible refine w_iR3 ?_))
local macro_rules | `(tactic| walk_at "w") => `(tactic| (repeat (first | walk_at "w1" | dsimp (config := { proj := false }) only [List.set_cons_zero, List.set_cons_succ])))
section
variable {w : World} [Lit] {mg : Str → Option Value} {base : Heap}
local macro_rules | `(tactic| walk_at "v1") => `(tactic| (first
  | with_reducible refine w_seq ?_ | with_reducible refine w_asgN ?_ | with_reducible refine w_c ?_
  | ((with_reducible refine' w_var ?wv ?_); (case wv => exact rfl))
  | with_reducible refine w_op ?_ | with_reducible refine w_un ?_ | with_reducible refine w_next ?_ | with_reducible refine w_brk ?_ | with_reducible refine w_cnt ?_
  | with_reducible refine w_ifS ?_ | with_reducible refine w_if ?_ | with_reducible refine w_test ?_ | with_reducible refine w_tB ?_ | with_reducible refine w_bl ?_ | with_reducible refine w_blI ?_
  | with_reducible refine w_and ?_ | with_reducible refine w_or ?_ | with_reducible refine w_not ?_ | with_reducible refine w_andV ?_ | with_reducible refine w_orV ?_ | with_reducible refine w_notV ?_
  | with_reducible refine w_nil ?_ | with_reducible refine w_cons ?_ | with_reducible refine w_cb ?_ | with_reducible refine w_call ?_ | with_reducible refine w_callS ?_ | with_reducible refine w_chain ?_
  | with_reducible refine w_sl ?_ | with_reducible refine w_noPart ?_ | with_reducible refine w_part ?_ | with_reducible refine w_partI ?_
  | with_reducible refine w_ret ?_ | with_reducible refine w_retN ?_ | with_reducible refine w_drop ?_ | with_reducible refine w_asg ?_ | with_reducible refine w_gSub ?_
  | ((with_reducible refine' w_aug ?wv ?_); (case wv => exact rfl)) | with_reducible refine w_ipI ?_
  | with_reducible refine w_addI ?_ | with_reducible refine w_subI ?_ | with_reducible refine w_ltI ?_ | with_reducible refine w_leI ?_ | with_reducible refine w_gtI ?_ | with_reducible refine w_geI ?_
  | with_reducible refine w_eqI ?_ | with_reducible refine w_neI ?_ | with_reducible refine w_eqT ?_ | with_reducible refine w_neT ?_ | with_reducible refine w_inS ?_ | with_reducible refine w_ninS ?_
  | with_reducible refine w_absI ?_ | with_reducible refine w_intI ?_ | with_reducible refine w_maxI ?_ | with_reducible refine w_minI ?_
  | with_reducible refine w_for ?_ | with_reducible refine w_iR1 ?_ | with_reducible refine w_iR2 ?_ | with_reducible refine w_iStr ?_ | with_reducible refine w_strI ?_ | with_reducible refine w_iList ?_ | with_reducible refine w_iTup ?_
  | with_reducible refine w_bm ?_ | with_reducible refine w_bm0 ?_ | with_reducible refine w_t ?_ | with_reducible refine w_f ?_ | with_reducible refine w_nt ?_ | with_reducible refine w_nx ?_ | with_reducible refine w_rt ?_ | with_reducible refine w_bk ?_ | with_reducible refine w_ct ?_ | with_reducible refine w_nf ?_ | with_reducible refine w_lc ?_ | with_reducible refine w_yes ?_ | with_reducible refine w_neg ?_ | with_reducible refine w_intB ?_ | with_reducible refine w_fld ?_ | with_reducible refine w_setf ?_ | with_reducible refine w_faug ?_ | with_reducible refine w_meth ?_ | with_reducible refine w_bmS ?_ | with_reducible refine w_start ?_ | with_reducible refine w_revL ?_ | with_reducible refine w_iR3 ?_))
local macro_rules | `(tactic| walk_at "v") => `(tactic| (repeat (first | walk_at "v1" | dsimp (config := { proj := false }) only [List.set_cons_zero, List.set_cons_succ])))
local macro_rules | `(tactic| walk_at "d") => `(tactic| (repeat (first | exact eva_nil | refine eva_cons ?_ ?_ | exact ev_str | exact ev_int | exact ev_neg | refine ev_tup ?_ | exact ev_var rfl (.str _) | exact ev_var rfl (.int _) | (refine ev_var rfl ?_; assumption))))


theorem tds_set {H : Hp} {xs : List V} {ds : List PyData} {v : V} {d : PyData} (h : TDs H xs ds) (k : TD H v d) (i : Nat) : TDs H (xs.set i v) (ds.set i d) := by
  induction ds generalizing xs i with
  | nil => cases h; exact .nil
  | cons e ds ih =>
    cases h with
    | cons a b =>
      cases i with
      | zero => exact .cons k b
      | succ i => exact .cons a (ih b i)
theorem l_set {H : Hp} {p : Addr} {ds : List PyData} {v : V} {d : PyData} {i : Nat} {F : Hp → Prop} (h : DL H p ds) (hv : TD H v d) (hi : i < ds.length) (k : ∀ H', DL H' p (ds.set i d) → Ex p H H' → F H') : rSetL (.ref p) (.int (i : Int)) v H F := by
  obtain ⟨xs, hp, t⟩ := h
  refine w_setL hp (by rw [t.len]; exact hi) ?_
  have ex : Ex p H (upd H p (.lst (xs.set i v))) := fun b hb => upd_ne hb
  have tm := Tm.ex hp ex
  exact k _ ⟨_, upd_same, tds_set (t.tm tm) (hv.tm tm) i⟩ ex
theorem TDs.repl {H : Hp} {v : V} {d : PyData} (h : TD H v d) : ∀ n, TDs H (List.replicate n v) (List.replicate n d)
  | 0 => .nil
  | n + 1 => .cons h (TDs.repl h n)
theorem natI_set (l : List Nat) (i n : Nat) : natI (l.set i n) = (natI l).set i (.int (n : Int)) := by unfold natI; rw [List.map_set]
theorem natI_at {l : List Nat} {i n : Nat} (e : l[i]? = some n) : (natI l)[i]? = some (.int (n : Int)) := by unfold natI; rw [List.getElem?_map, e]; rfl
def exts (t : Gt) : List Nat := (subs t).map Tr.nodes
theorem exts_len (t : Gt) : (exts t).length = t.nodes := by unfold exts; rw [List.length_map, subs_len]
theorem exts_at {t : Gt} {k : Nat} {s : Gt} (h : (subs t)[k]? = some s) : (exts t)[k]? = some s.nodes := by unfold exts; rw [List.getElem?_map, h]; rfl
theorem ones_len (n : Nat) : (List.replicate n 1).length = n := List.length_replicate ..
def sp_law_extents : Sp := sp1 fun x H Q _ => ∃ (p : Addr) (t : Gt), x = .ref p ∧ DL H p (gd (rows t)) ∧ t.nodes ≤ 1000 ∧ ∀ q H', H q = none → Same H H' → DL H' q (natI (exts t)) → Q (.ref q) H'
theorem ok_law_extents (T : Txt w K mg) {fd : FuncData} (F : Fn_law_extents K fd) (hm : mg "_law_extents" = some (.ref (He.ga K "_law_extents")))  : CalX P w K mg base CX0 1 "_law_extents" sp_law_extents := by
  refine calx0 (k := 0) F hm sc_law_extents (b_law_extents F) (fun _ _ _ _ h => sp1_len h) (fun cdv A outer s H vs Q E hr h => ?_)
  obtain ⟨x0, rfl, h⟩ := h
  refine ⟨_, (pss_cons (ps_setLc (i := 1) (own := [("row", 4)]) (g := gName 4) (tt := tYes) (by rfl) sc_law_extents.nd rfl rfl (sw_true rfl rfl rfl (by decide +kernel)) (pi_list (pv 0)) (blkOk_by (own := [("row", 4)]) (N := ["code", "extents", "k", "first", "row"]) (sc := defScope s_law_extents) (by decide +kernel)) (fun _ _ _ _ _ => pg_name (i := 4) sc_law_extents.nd rfl (Or.inl rfl)) (fun _ _ _ _ _ => pts_nil) (fun _ _ _ _ _ => pe_int))
    (pss_cons (ps_for PassesOwn.never rfl (pi_range3 (by rfl) T.f_range (pa_cons (pe_op op_subI (pe_callB call_lenQ (by rfl) T.f_len PySem.boot_len (pa_cons (pv 0) pa_nil)) pe_int) (pa_cons (pe_un un_neg pe_int) (pa_cons (pe_un un_neg pe_int) pa_nil)))) (pg_name (i := 2) sc_law_extents.nd rfl (Or.inl rfl))
    (pss_one (ps_if (pt_cmpR op_eq (pe_ix ix_tup (pe_ix ix_list (pv 0) (pv 2) (fun _ _ => rfl)) pe_int (fun _ _ => rfl)) pe_str (nomark _))
    (pss_cons (ps_set (i := 3) sc_law_extents.nd rfl (Or.inl rfl) (pe_ix ix_list (pv 1) (pe_op op_addI (pv 2) pe_int) (fun _ _ => rfl)))
    (pss_one (ps_asg (pe_op op_addI (pe_op op_addI pe_int (pv 3)) (pe_ix ix_list (pv 1) (pe_op op_addI (pe_op op_addI (pv 2) pe_int) (pv 3)) (fun _ _ => rfl))) (pg_sub (pv 1) (pv 2) set_list))))
    (pss_one (ps_if (pt_cmpR op_eq (pe_ix ix_tup (pe_ix ix_list (pv 0) (pv 2) (fun _ _ => rfl)) pe_int (fun _ _ => rfl)) pe_str (nomark _))
    (pss_one (ps_asg (pe_op op_addI pe_int (pe_ix ix_list (pv 1) (pe_op op_addI (pv 2) pe_int) (fun _ _ => rfl))) (pg_sub (pv 1) (pv 2) set_list)))
    pss_nil)))))
    (pss_one (ps_ret (pv 1))))), ?_⟩
  rw [show start ["code", "extents", "k", "first", "row"] [x0] = [some x0, none, none, none, none] from rfl]
  have ec0 : Str.ofString "app" = S [97,112,112] := S_ofs (by decide +kernel)
  have ec1 : Str.ofString "lam" = S [108,97,109] := S_ofs (by decide +kernel)
  rw [ec0, ec1]
  obtain ⟨p, t, rfl, hd, hn, hQ⟩ := h
  obtain ⟨N, hN⟩ : ∃ N, N = t.nodes := ⟨_, rfl⟩
  try dsimp only [cxOf]
  walk_at "v"
  obtain ⟨xs, e0, t0⟩ := hd
  have lx : xs.length = N := by rw [t0.len, gd_len, rows_len, hN]
  have hd : DL H p (gd (rows t)) := ⟨xs, e0, t0⟩
  refine w_lstI (SqL.of e0) ?_
  intro D hD
  refine lc_const (v := .int 1) (SqL.of e0) hD (by omega) (fun H1 s1 e1 => ?_)
  walk_at "v"
  rw [lx] at e1
  have d1 : DL H1 D (natI (List.replicate N 1)) := ⟨_, e1, by
    unfold natI
    rw [List.map_replicate]
    exact TDs.repl (.int 1) N⟩
  refine l_len (hd.same s1) ?_
  rw [gd_len, rows_len, ← hN]
  walk_at "v"
  have hrg := RgC.neg (i := (N : Int) - 1) (j := -1) (by omega) (by omega) (by omega) (by omega)
  rw [show ((N : Int) - 1 - -1).toNat = N by omega] at hrg
  refine ⟨_, _, _, _, rfl, hrg, ?_⟩
  have lr : (List.replicate N 1).length = N := List.length_replicate ..
  have le : (exts t).length = N := by rw [exts_len, hN]
  refine for_rangeC (fun i σ H' => i ≤ N ∧ ∃ (v1 v2 v3 : Option V), σ = [some (.ref p), some (.ref D), v1, v2, v3] ∧ Same H H' ∧ DL H' D (natI (mixL (List.replicate N 1) (exts t) (N - i))))
    ⟨Nat.zero_le _, _, _, _, rfl, s1, by
      have e := mixL_all (a := List.replicate N 1) (b := exts t) (by rw [lr, le])
      rw [lr] at e
      rw [Nat.sub_zero, e]; exact d1⟩ ?_ ?_
  · rintro i σ G hi ⟨_, v1, v2, v3, rfl, sg, dg⟩
    have hi : i < N := hi
    obtain ⟨k, hk⟩ : ∃ k, k = N - (i + 1) := ⟨_, rfl⟩
    rw [show N - i = k + 1 by omega] at dg
    have hkl : k < N := by omega
    obtain ⟨s, es⟩ := subs_at (t := t) (k := k) (by omega)
    have er := rows_at es
    have ml : (mixL (List.replicate N 1) (exts t) (k + 1)).length = N := mixL_len lr le (by omega)
    have fits := sub_fits es
    have put : ∀ {G' : Hp} {n : Nat} {F : Hp → Prop} {u1 u2 u3 : Option V}, Same G G' → s.nodes = n → (∀ H', (i + 1 ≤ N ∧ ∃ (v1 v2 v3 : Option V), [some (.ref p), some (.ref D), u1, u2, u3] = [some (.ref p), some (.ref D), v1, v2, v3] ∧ Same H H' ∧ DL H' D (natI (mixL (List.replicate N 1) (exts t) (N - (i + 1))))) → F H') → rSetL (.ref D) (.int (k : Int)) (.int (n : Int)) G' F := by
      intro G' n F u1 u2 u3 s' en kF
      refine l_set (dg.same s') (.int (n : Int)) (by rw [natI_len, ml]; omega) (fun H' d' x' => ?_)
      refine kF H' ⟨hi, _, _, _, rfl, (sg.tr s').ex hD x', ?_⟩
      rw [← natI_set, mixL_set (by rw [lr]; omega) (by rw [exts_at es, en])] at d'
      rw [← hk]; exact d'
    dsimp only [gName]
    walk_at "v"
    rw [show (N : Int) - 1 + ((i : Nat) : Int) * -1 = (k : Int) by omega]
    refine l_ix (hd.same sg) (gd_at er) (fun x tx => ?_)
    walk_at "v"
    obtain ⟨rest, erd⟩ := gw_d (root s)
    have tdx : TD G x (.tuple (.str (S (gw (root s))) :: rest)) := by rw [← erd]; exact tx
    refine t_ixS (n := 0) tdx rfl ?_
    walk_at "v"
    cases s with
    | app f a =>
      rw [show decide (gw (root (.app f a)) = [97, 112, 112]) = true from (show decide (wAPP = [97, 112, 112]) = true by decide)]
      have e1 := exts_at (sub_fun es)
      have e2 := exts_at (sub_arg es)
      have hb : f.nodes + a.nodes + 1 + k ≤ N := by have f2 : k + (f.nodes + a.nodes + 1) ≤ t.nodes := fits; omega
      walk_at "v"
      rw [show ((k : Int) + 1) = ((k + 1 : Nat) : Int) by omega]
      refine l_ix dg (natI_at (by rw [mixL_hi (by rw [lr]; omega) (by omega), e1])) (fun y ty => ?_)
      rw [ty.num]
      walk_at "v"
      rw [show ((k : Int) + 1 + (f.nodes : Int)) = ((k + 1 + f.nodes : Nat) : Int) by omega]
      refine l_ix dg (natI_at (by rw [mixL_hi (by rw [lr]; omega) (by omega), e2])) (fun y2 ty2 => ?_)
      rw [ty2.num]
      walk_at "v"
      rw [show ((1 : Int) + (f.nodes : Int) + (a.nodes : Int)) = ((1 + f.nodes + a.nodes : Nat) : Int) by omega]
      exact put (Same.refl' _) (by show f.nodes + a.nodes + 1 = _; omega) (fun H' h => h)
    | lam j b =>
      rw [show decide (gw (root (.lam j b)) = [97, 112, 112]) = false from (show decide (wLAM = [97, 112, 112]) = false by decide)]
      have e1 := exts_at (sub_lam es)
      have hb : b.nodes + 1 + k ≤ N := by have f2 : k + (b.nodes + 1) ≤ t.nodes := fits; omega
      walk_at "v"
      refine l_ix (hd.same sg) (gd_at er) (fun x2 tx2 => ?_)
      walk_at "v"
      have tdx2 : TD G x2 (.tuple [.str (S wLAM), j.d]) := tx2
      refine t_ixS (n := 0) tdx2 rfl ?_
      walk_at "v"
      rw [show decide (wLAM = [108, 97, 109]) = true from by decide]
      walk_at "v"
      rw [show ((k : Int) + 1) = ((k + 1 : Nat) : Int) by omega]
      refine l_ix dg (natI_at (by rw [mixL_hi (by rw [lr]; omega) (by omega), e1])) (fun y ty => ?_)
      rw [ty.num]
      walk_at "v"
      rw [show ((1 : Int) + (b.nodes : Int)) = ((1 + b.nodes : Nat) : Int) by omega]
      exact put (Same.refl' _) (by show b.nodes + 1 = _; omega) (fun H' h => h)
    | tip x =>
      have m12 := gw_tip x
      rw [show decide (gw (root (.tip x)) = [97, 112, 112]) = false from decide_eq_false m12.1]
      walk_at "v"
      refine l_ix (hd.same sg) (gd_at er) (fun x2 tx2 => ?_)
      walk_at "v"
      have tdx2 : TD G x2 (.tuple (.str (S (gw (root (.tip x)))) :: rest)) := by rw [← erd]; exact tx2
      refine t_ixS (n := 0) tdx2 rfl ?_
      walk_at "v"
      rw [show decide (gw (root (.tip x)) = [108, 97, 109]) = false from decide_eq_false m12.2]
      walk_at "v"
      refine ⟨hi, _, _, _, rfl, sg, ?_⟩
      rw [mixL_same (x := 1) (by rw [List.getElem?_replicate, if_pos hkl]) (exts_at es)] at dg
      rw [← hk]; exact dg
  · rintro σ G ⟨_, v1, v2, v3, rfl, sg, dg⟩
    rw [Nat.sub_self, mixL_zero] at dg
    walk_at "v"
    exact hQ D G hD sg dg

theorem trs_at {l : List Gt} {k : Nat} {s : Gt} (h : l[k]? = some s) : (trs l)[k]? = some (upT s).d := by unfold trs; rw [List.getElem?_map, h]; rfl
theorem trs_len (l : List Gt) : (trs l).length = l.length := List.length_map ..
def sp_law_parts : Sp := sp2 fun x y H Q _ => ∃ (p e : Addr) (t : Gt), x = .ref p ∧ y = .ref e ∧ DL H p (gd (rows t)) ∧ DL H e (natI (exts t)) ∧ t.nodes ≤ 1000 ∧ ∀ q H', H q = none → Same H H' → DL H' q (trs (subs t)) → Q (.ref q) H'
theorem ok_law_parts (T : Txt w K mg) {fd : FuncData} (F : Fn_law_parts K fd) (hm : mg "_law_parts" = some (.ref (He.ga K "_law_parts")))  : CalX P w K mg base CX0 1 "_law_parts" sp_law_parts := by
  refine calx0 (k := 0) F hm sc_law_parts (b_law_parts F) (fun _ _ _ _ h => sp2_len h) (fun cdv A outer s H vs Q E hr h => ?_)
  obtain ⟨x0, x1, rfl, h⟩ := h
  refine ⟨_, (pss_cons (ps_set (i := 2) sc_law_parts.nd rfl (Or.inl rfl) (pe_callTy call_lstQ (by rfl) T.f_list (by decide +kernel) (pa_cons (pv 0) pa_nil)))
    (pss_cons (ps_for PassesOwn.never rfl (pi_range3 (by rfl) T.f_range (pa_cons (pe_op op_subI (pe_callB call_lenQ (by rfl) T.f_len PySem.boot_len (pa_cons (pv 0) pa_nil)) pe_int) (pa_cons (pe_un un_neg pe_int) (pa_cons (pe_un un_neg pe_int) pa_nil)))) (pg_name (i := 3) sc_law_parts.nd rfl (Or.inl rfl))
    (pss_one (ps_if (pt_cmpR op_eq (pe_ix ix_tup (pe_ix ix_list (pv 0) (pv 3) (fun _ _ => rfl)) pe_int (fun _ _ => rfl)) pe_str (nomark _))
    (pss_one (ps_asg (pe_tup (pa_cons pe_str (pa_cons (pe_ix ix_list (pv 2) (pe_op op_addI (pv 3) pe_int) (fun _ _ => rfl)) (pa_cons (pe_ix ix_list (pv 2) (pe_op op_addI (pe_op op_addI (pv 3) pe_int) (pe_ix ix_list (pv 1) (pe_op op_addI (pv 3) pe_int) (fun _ _ => rfl))) (fun _ _ => rfl)) pa_nil)))) (pg_sub (pv 2) (pv 3) set_list)))
    (pss_one (ps_if (pt_cmpR op_eq (pe_ix ix_tup (pe_ix ix_list (pv 0) (pv 3) (fun _ _ => rfl)) pe_int (fun _ _ => rfl)) pe_str (nomark _))
    (pss_one (ps_asg (pe_tup (pa_cons pe_str (pa_cons (pe_ix ix_tup (pe_ix ix_list (pv 0) (pv 3) (fun _ _ => rfl)) pe_int (fun _ _ => rfl)) (pa_cons (pe_ix ix_list (pv 2) (pe_op op_addI (pv 3) pe_int) (fun _ _ => rfl)) pa_nil)))) (pg_sub (pv 2) (pv 3) set_list)))
    pss_nil)))))
    (pss_one (ps_ret (pv 2))))), ?_⟩
  rw [show start ["code", "extents", "parts", "k"] [x0, x1] = [some x0, some x1, none, none] from rfl]
  have ec0 : Str.ofString "app" = S [97,112,112] := S_ofs (by decide +kernel)
  have ec1 : Str.ofString "lam" = S [108,97,109] := S_ofs (by decide +kernel)
  rw [ec0, ec1]
  obtain ⟨p, e, t, rfl, rfl, hd, he, hn, hQ⟩ := h
  obtain ⟨N, hN⟩ : ∃ N, N = t.nodes := ⟨_, rfl⟩
  try dsimp only [cxOf]
  walk_at "v"
  refine l_ofL hd (fun D H1 hD s1 d1 => ?_)
  walk_at "v"
  refine l_len (hd.same s1) ?_
  rw [gd_len, rows_len, ← hN]
  walk_at "v"
  have hrg := RgC.neg (i := (N : Int) - 1) (j := -1) (by omega) (by omega) (by omega) (by omega)
  rw [show ((N : Int) - 1 - -1).toNat = N by omega] at hrg
  refine ⟨_, _, _, _, rfl, hrg, ?_⟩
  have lr : (gd (rows t)).length = N := by rw [gd_len, rows_len, hN]
  have le : (trs (subs t)).length = N := by rw [trs_len, subs_len, hN]
  refine for_rangeC (fun i σ H' => i ≤ N ∧ ∃ (v1 : Option V), σ = [some (.ref p), some (.ref e), some (.ref D), v1] ∧ Same H H' ∧ DL H' D (mixL (gd (rows t)) (trs (subs t)) (N - i)))
    ⟨Nat.zero_le _, _, rfl, s1, by
      have e := mixL_all (a := gd (rows t)) (b := trs (subs t)) (by rw [lr, le])
      rw [lr] at e
      rw [Nat.sub_zero, e]; exact d1⟩ ?_ ?_
  · rintro i σ G hi ⟨_, v1, rfl, sg, dg⟩
    have hi : i < N := hi
    obtain ⟨k, hk⟩ : ∃ k, k = N - (i + 1) := ⟨_, rfl⟩
    rw [show N - i = k + 1 by omega] at dg
    have hkl : k < N := by omega
    obtain ⟨s, es⟩ := subs_at (t := t) (k := k) (by omega)
    have er := rows_at es
    have ml : (mixL (gd (rows t)) (trs (subs t)) (k + 1)).length = N := mixL_len lr le (by omega)
    have fits := sub_fits es
    have put : ∀ {G' : Hp} {v : V} {F : Hp → Prop} {u1 : Option V}, Same G G' → TD G' v (upT s).d → (∀ H', (i + 1 ≤ N ∧ ∃ (v1 : Option V), [some (.ref p), some (.ref e), some (.ref D), u1] = [some (.ref p), some (.ref e), some (.ref D), v1] ∧ Same H H' ∧ DL H' D (mixL (gd (rows t)) (trs (subs t)) (N - (i + 1)))) → F H') → rSetL (.ref D) (.int (k : Int)) v G' F := by
      intro G' v F u1 s' tv kF
      refine l_set (dg.same s') tv (by rw [ml]; omega) (fun H' d' x' => ?_)
      refine kF H' ⟨hi, _, rfl, (sg.tr s').ex hD x', ?_⟩
      rw [mixL_set (by rw [lr]; omega) (trs_at es)] at d'
      rw [← hk]; exact d'
    dsimp only [gName]
    walk_at "v"
    rw [show (N : Int) - 1 + ((i : Nat) : Int) * -1 = (k : Int) by omega]
    refine l_ix (hd.same sg) (gd_at er) (fun x tx => ?_)
    walk_at "v"
    obtain ⟨rest, erd⟩ := gw_d (root s)
    have tdx : TD G x (.tuple (.str (S (gw (root s))) :: rest)) := by rw [← erd]; exact tx
    refine t_ixS (n := 0) tdx rfl ?_
    walk_at "v"
    cases s with
    | app f a =>
      rw [show decide (gw (root (.app f a)) = [97, 112, 112]) = true from (show decide (wAPP = [97, 112, 112]) = true by decide)]
      have e1 := trs_at (sub_fun es)
      have e2 := trs_at (sub_arg es)
      have e3 := exts_at (sub_fun es)
      walk_at "v"
      refine w_tupN ?_
      walk_at "v"
      rw [show ((k : Int) + 1) = ((k + 1 : Nat) : Int) by omega]
      refine l_ix dg (by rw [mixL_hi (by rw [lr]; omega) (by omega), e1]) (fun y ty => ?_)
      walk_at "v"
      rw [show ((k : Int) + 1) = ((k + 1 : Nat) : Int) by omega]
      refine l_ix (he.same sg) (natI_at e3) (fun y2 ty2 => ?_)
      rw [ty2.num]
      walk_at "v"
      rw [show (((k + 1 : Nat) : Int) + (f.nodes : Int)) = ((k + 1 + f.nodes : Nat) : Int) by omega]
      refine l_ix dg (by rw [mixL_hi (by rw [lr]; omega) (by omega), e2]) (fun y3 ty3 => ?_)
      walk_at "v"
      refine t_new (ds := [.str (S wAPP), (upT f).d, (upT a).d]) (.cons (.str _) (.cons ty (.cons ty3 .nil))) (fun z G1 hz s1 t1 => ?_)
      walk_at "v"
      exact put s1 t1 (fun H' h => h)
    | lam j b =>
      rw [show decide (gw (root (.lam j b)) = [97, 112, 112]) = false from (show decide (wLAM = [97, 112, 112]) = false by decide)]
      have e1 := trs_at (sub_lam es)
      walk_at "v"
      refine l_ix (hd.same sg) (gd_at er) (fun x2 tx2 => ?_)
      walk_at "v"
      have tdx2 : TD G x2 (.tuple [.str (S wLAM), j.d]) := tx2
      refine t_ixS (n := 0) tdx2 rfl ?_
      walk_at "v"
      rw [show decide (wLAM = [108, 97, 109]) = true from by decide]
      walk_at "v"
      refine w_tupN ?_
      walk_at "v"
      refine l_ix (hd.same sg) (gd_at er) (fun x3 tx3 => ?_)
      walk_at "v"
      have tdx3 : TD G x3 (.tuple [.str (S wLAM), j.d]) := tx3
      refine t_ix (n := 1) tdx3 rfl (fun x4 tx4 => ?_)
      walk_at "v"
      rw [show ((k : Int) + 1) = ((k + 1 : Nat) : Int) by omega]
      refine l_ix dg (by rw [mixL_hi (by rw [lr]; omega) (by omega), e1]) (fun y ty => ?_)
      walk_at "v"
      refine t_new (ds := [.str (S wLAM), j.d, (upT b).d]) (.cons (.str _) (.cons tx4 (.cons ty .nil))) (fun z G1 hz s1 t1 => ?_)
      walk_at "v"
      exact put s1 t1 (fun H' h => h)
    | tip x =>
      have m12 := gw_tip x
      rw [show decide (gw (root (.tip x)) = [97, 112, 112]) = false from decide_eq_false m12.1]
      walk_at "v"
      refine l_ix (hd.same sg) (gd_at er) (fun x2 tx2 => ?_)
      walk_at "v"
      have tdx2 : TD G x2 (.tuple (.str (S (gw (root (.tip x)))) :: rest)) := by rw [← erd]; exact tx2
      refine t_ixS (n := 0) tdx2 rfl ?_
      walk_at "v"
      rw [show decide (gw (root (.tip x)) = [108, 97, 109]) = false from decide_eq_false m12.2]
      walk_at "v"
      refine ⟨hi, _, rfl, sg, ?_⟩
      rw [mixL_same (gd_at er) (trs_at es)] at dg
      rw [← hk]; exact dg
  · rintro σ G ⟨_, v1, rfl, sg, dg⟩
    rw [Nat.sub_self, mixL_zero] at dg
    walk_at "v"
    exact hQ D G hD sg dg

def sp_built : Sp := sp1 fun x H Q _ => ∃ (p : Addr) (t : Gt), x = .ref p ∧ DL H p (gd (rows t)) ∧ t.nodes ≤ 1000 ∧ ∀ v H', Same H H' → TD H' v (upT t).d → Q v H'
theorem ok_law_built (T : Txt w K mg) {fd : FuncData} (F : Fn_law_built K fd) (hm : mg "_law_built" = some (.ref (He.ga K "_law_built"))) (c_law_extents : CalX P w K mg base CX0 1 "_law_extents" sp_law_extents)(c_law_parts : CalX P w K mg base CX0 1 "_law_parts" sp_law_parts) : CalX P w K mg base CX0 2 "_law_built" sp_built := by
  refine calx0 (k := 1) F hm sc_law_built (b_law_built F) (fun _ _ _ _ h => sp1_len h) (fun cdv A outer s H vs Q E hr h => ?_)
  obtain ⟨x0, rfl, h⟩ := h
  refine ⟨_, (pss_one (ps_ret (pe_ix ix_list (pe_cx c_law_parts hr (by decide) rfl pass0 (pa_cons (pv 0) (pa_cons (pe_cx c_law_extents hr (by decide) rfl pass0 (pa_cons (pv 0) pa_nil)) pa_nil))) pe_int (fun _ _ => rfl)))), ?_⟩
  rw [show start ["code"] [x0] = [some x0] from rfl]
  obtain ⟨p, t, rfl, hd, hn, hQ⟩ := h
  try dsimp only [cxOf]
  walk_at "v"
  refine ⟨_, rfl, p, t, rfl, hd, hn, fun e H1 he s1 d1 => ?_⟩
  walk_at "v"
  refine ⟨_, _, rfl, p, e, t, rfl, rfl, hd.same s1, d1, hn, fun q H2 hq s2 d2 => ?_⟩
  walk_at "v"
  obtain ⟨l, el⟩ := subs_head t
  refine l_ix (n := 0) d2 (trs_at (by rw [el]; rfl)) (fun v tv => ?_)
  exact hQ v H2 (s1.tr s2) tv
end
end K03

namespace K03
open PySem PySem.Spec PyProof.Rows L2 SX K02 K01
local macro_rules | `(tactic| walk_at "w1") => `(tactic| (first
  | with_reducible refine w_seq ?_ | with_reducible refine w_asgN ?_ | with_reducible refine w_c ?_
  | ((with_reducible refine' w_var ?wv ?_); (case wv => exact rfl))
  | with_reducible refine w_op ?_ | with_reducible refine w_un ?_ | with_reducible refine w_next ?_ | with_reducible refine w_brk ?_ | with_reducible refine w_cnt ?_
  | with_reducible refine w_ifS ?_ | with_reducible refine w_if ?_ | with_reducible refine w_test ?_ | with_reducible refine w_tB ?_ | with_reducible refine w_bl ?_ | with_reducible refine w_blI ?_
  | with_reducible refine w_and ?_ | with_reducible refine w_or ?_ | with_reducible refine w_not ?_ | with_reducible refine w_andV ?_ | with_reducible refine w_orV ?_ | with_reducible refine w_notV ?_
  | with_reducible refine w_nil ?_ | with_reducible refine w_cons ?_ | with_reducible refine w_cb ?_ | with_reducible refine w_call ?_ | with_reducible refine w_callS ?_ | with_reducible refine w_chain ?_
  | with_reducible refine w_tupN ?_ | with_reducible refine w_lstN ?_ | with_reducible refine w_sl ?_ | with_reducible refine w_noPart ?_ | with_reducible refine w_part ?_ | with_reducible refine w_partI ?_
  | with_reducible refine w_ret ?_ | with_reducible refine w_retN ?_ | with_reducible refine w_drop ?_ | with_reducible refine w_asg ?_ | with_reducible refine w_gSub ?_
  | ((with_reducible refine' w_aug ?wv ?_); (case wv => exact rfl)) | with_reducible refine w_ipI ?_
  | with_reducible refine w_addI ?_ | with_reducible refine w_subI ?_ | with_reducible refine w_ltI ?_ | with_reducible refine w_leI ?_ | with_reducible refine w_gtI ?_ | with_reducible refine w_geI ?_
  | with_reducible refine w_eqI ?_ | with_reducible refine w_neI ?_ | with_reducible refine w_eqT ?_ | with_reducible refine w_neT ?_ | with_reducible refine w_inS ?_ | with_reducible refine w_ninS ?_
  | with_reducible refine w_absI ?_ | with_reducible refine w_intI ?_ | with_reducible refine w_maxI ?_ | with_reducible refine w_minI ?_
  | with_reducible refine w_for ?_ | with_reducible refine w_iR1 ?_ | with_reducible refine w_iR2 ?_ | with_reducible refine w_iStr ?_ | with_reducible refine w_strI ?_ | with_reducible refine w_iList ?_ | with_reducible refine w_iTup ?_
  | with_reducible refine w_bm ?_ | with_reducible refine w_bm0 ?_ | with_reducible refine w_t ?_ | with_reducible refine w_f ?_ | with_reducible refine w_nt ?_ | with_reducible refine w_nx ?_ | with_reducible refine w_rt ?_ | with_reducible refine w_bk ?_ | with_reducible refine w_ct ?_ | with_reducible refine w_nf ?_ | with_reducible refine w_lc ?_ | with_reducible refine w_yes ?_ | with_reducible refine w_neg ?_ | with_reducible refine w_intB ?_ | with_reducible refine w_fld ?_ | with_reducible refine w_setf ?_ | with_reducible refine w_faug ?_ | with_reducible refine w_meth ?_ | with_reducible refine w_bmS ?_ | with_reducible refine w_start ?_ | with_reducible refine w_revL ?_ | with_reducible refine w_iR3 ?_))
local macro_rules | `(tactic| walk_at "w") => `(tactic| (repeat (first | walk_at "w1" | dsimp (config := { proj := false }) only [List.set_cons_zero, List.set_cons_succ])))
section
variable {w : World} [Lit] {mg : Str → Option Value} {base : Heap}
local macro_rules | `(tactic| walk_at "v1") => `(tactic| (first
  | with_reducible refine w_seq ?_ | with_reducible refine w_asgN ?_ | with_reducible refine w_c ?_
  | ((with_reducible refine' w_var ?wv ?_); (case wv => exact rfl))
  | with_reducible refine w_op ?_ | with_reducible refine w_un ?_ | with_reducible refine w_next ?_ | with_reducible refine w_brk ?_ | with_reducible refine w_cnt ?_
  | with_reducible refine w_ifS ?_ | with_reducible refine w_if ?_ | with_reducible refine w_test ?_ | with_reducible refine w_tB ?_ | with_reducible refine w_bl ?_ | with_reducible refine w_blI ?_
  | with_reducible refine w_and ?_ | with_reducible refine w_or ?_ | with_reducible refine w_not ?_ | with_reducible refine w_andV ?_ | with_reducible refine w_orV ?_ | with_reducible refine w_notV ?_
  | with_reducible refine w_nil ?_ | with_reducible refine w_cons ?_ | with_reducible refine w_cb ?_ | with_reducible refine w_call ?_ | with_reducible refine w_callS ?_ | with_reducible refine w_chain ?_
  | with_reducible refine w_sl ?_ | with_reducible refine w_noPart ?_ | with_reducible refine w_part ?_ | with_reducible refine w_partI ?_
  | with_reducible refine w_ret ?_ | with_reducible refine w_retN ?_ | with_reducible refine w_drop ?_ | with_reducible refine w_asg ?_ | with_reducible refine w_gSub ?_
  | ((with_reducible refine' w_aug ?wv ?_); (case wv => exact rfl)) | with_reducible refine w_ipI ?_
  | with_reducible refine w_addI ?_ | with_reducible refine w_subI ?_ | with_reducible refine w_ltI ?_ | with_reducible refine w_leI ?_ | with_reducible refine w_gtI ?_ | with_reducible refine w_geI ?_
  | with_reducible refine w_eqI ?_ | with_reducible refine w_neI ?_ | with_reducible refine w_eqT ?_ | with_reducible refine w_neT ?_ | with_reducible refine w_inS ?_ | with_reducible refine w_ninS ?_
  | with_reducible refine w_absI ?_ | with_reducible refine w_intI ?_ | with_reducible refine w_maxI ?_ | with_reducible refine w_minI ?_
  | with_reducible refine w_for ?_ | with_reducible refine w_iR1 ?_ | with_reducible refine w_iR2 ?_ | with_reducible refine w_iStr ?_ | with_reducible refine w_strI ?_ | with_reducible refine w_iList ?_ | with_reducible refine w_iTup ?_
  | with_reducible refine w_bm ?_ | with_reducible refine w_bm0 ?_ | with_reducible refine w_t ?_ | with_reducible refine w_f ?_ | with_reducible refine w_nt ?_ | with_reducible refine w_nx ?_ | with_reducible refine w_rt ?_ | with_reducible refine w_bk ?_ | with_reducible refine w_ct ?_ | with_reducible refine w_nf ?_ | with_reducible refine w_lc ?_ | with_reducible refine w_yes ?_ | with_reducible refine w_neg ?_ | with_reducible refine w_intB ?_ | with_reducible refine w_fld ?_ | with_reducible refine w_setf ?_ | with_reducible refine w_faug ?_ | with_reducible refine w_meth ?_ | with_reducible refine w_bmS ?_ | with_reducible refine w_start ?_ | with_reducible refine w_revL ?_ | with_reducible refine w_iR3 ?_))
local macro_rules | `(tactic| walk_at "v") => `(tactic| (repeat (first | walk_at "v1" | dsimp (config := { proj := false }) only [List.set_cons_zero, List.set_cons_succ])))
local macro_rules | `(tactic| walk_at "d") => `(tactic| (repeat (first | exact eva_nil | refine eva_cons ?_ ?_ | exact ev_str | exact ev_int | exact ev_neg | refine ev_tup ?_ | exact ev_var rfl (.str _) | exact ev_var rfl (.int _) | (refine ev_var rfl ?_; assumption))))


theorem root_const {f : Gt} (h : gw (root f) = wCONST) : ∃ w k, f = .tip (.cst w k) := by
  cases f with
  | app g b => exact absurd (show wAPP = wCONST from h) (by decide)
  | lam j b => exact absurd (show wLAM = wCONST from h) (by decide)
  | tip x =>
    cases x with
    | cst w k => exact ⟨w, k, rfl⟩
    | var w k => exact absurd (show wVAR = wCONST from h) (by decide)
    | bnd i => exact absurd (show wBOUND = wCONST from h) (by decide)
theorem root_app {f : Gt} (h : gw (root f) = wAPP) : ∃ g b, f = .app g b := by
  cases f with
  | app g b => exact ⟨g, b, rfl⟩
  | lam j b => exact absurd (show wLAM = wAPP from h) (by decide)
  | tip x => exact absurd h (gw_tip x).1
theorem sp_leaf {f : Gt} (h : gw (root f) ≠ wAPP) : spT f = (f, []) := by
  cases f with
  | app g b => exact absurd rfl h
  | lam j b => rfl
  | tip x => rfl
theorem rd_head {s : Gt} (h : ∀ w k, (spT s).1 ≠ .tip (.cst w k)) : rdT s = otT s := by
  unfold rdT
  generalize (spT s).1 = hd at *
  cases hd with
  | app f a => rfl
  | lam j b => rfl
  | tip x =>
    cases x with
    | cst w k => exact absurd rfl (h w k)
    | var w k => rfl
    | bnd i => rfl
theorem rdN_le {w : List Nat} (h : w ∈ LOGIC) : rdN w ≤ 2 := by
  have : ∀ w ∈ LOGIC, rdN w ≤ 2 := by decide +kernel
  exact this w h
theorem rdN_of {w : List Nat} (h : w ∈ LOGIC) : (rdN w = 0 → w ∈ [gTRUE, gFALSE]) ∧ (rdN w = 1 → w = gNOT ∨ w ∈ [gALL, gSOME]) ∧ (rdN w = 2 → w = gAND ∨ w = gOR ∨ w = gIMP ∨ w = gEQ) := by
  have : ∀ w ∈ LOGIC, (rdN w = 0 → w ∈ [gTRUE, gFALSE]) ∧ (rdN w = 1 → w = gNOT ∨ w ∈ [gALL, gSOME]) ∧ (rdN w = 2 → w = gAND ∨ w = gOR ∨ w = gIMP ∨ w = gEQ) := by decide +kernel
  exact this w h
theorem rdH_no {w : List Nat} {k : Kd} {as : List Gt} {g : Gt} (h : w ∈ LOGIC → as.length ≠ rdN w) : rdH (.tip (.cst w k)) as g = otT g := by
  show (if w ∈ LOGIC ∧ as.length = rdN w then _ else _) = _
  rw [if_neg (fun z => h z.1 z.2)]
theorem rdH_yes {w : List Nat} {k : Kd} {as : List Gt} {g : Gt} (h : w ∈ LOGIC) (e : as.length = rdN w) : rdH (.tip (.cst w k)) as g = .tuple (.str (S (rdW w)) :: trs as) := by
  show (if w ∈ LOGIC ∧ as.length = rdN w then _ else _) = _
  rw [if_pos ⟨h, e⟩]
theorem rd_long {s : Gt} (h : 3 ≤ (spT s).2.length) : rdT s = otT s := by
  unfold rdT
  generalize (spT s).2 = as at *
  generalize (spT s).1 = hd at *
  cases hd with
  | app f a => rfl
  | lam j b => rfl
  | tip x =>
    cases x with
    | cst w k => exact rdH_no fun z => by have := rdN_le z; omega
    | var w k => rfl
    | bnd i => rfl
theorem rd_one {f a : Gt} (h1 : gw (root f) ≠ wAPP) (h2 : gw (root f) ≠ wCONST) : rdT (.app f a) = otT (.app f a) := by
  refine rd_head fun w k e => ?_
  rw [spT_app, sp_leaf h1] at e
  have e : f = .tip (.cst w k) := e
  rw [e] at h2; exact h2 rfl
theorem rd_two {g b a : Gt} (h2 : gw (root g) ≠ wCONST) : rdT (.app (.app g b) a) = otT (.app (.app g b) a) := by
  by_cases h1 : gw (root g) = wAPP
  · obtain ⟨x, y, rfl⟩ := root_app h1
    refine rd_long ?_
    rw [spT_app, spT_app, spT_app, List.length_append, List.length_append, List.length_append]
    show 3 ≤ _ + 1 + 1 + 1
    omega
  · refine rd_head fun w k e => ?_
    rw [spT_app, spT_app, sp_leaf h1] at e
    have e : g = .tip (.cst w k) := e
    rw [e] at h2; exact h2 rfl
theorem tf_vs : ([.str (S [116,114,117,101]), .str (S [102,97,108,115,101])] : List V) = [gTRUE, gFALSE].map fun r => V.str (S r) := rfl
theorem as_vs : ([.str (S [97,108,108]), .str (S [115,111,109,101])] : List V) = [gALL, gSOME].map fun r => V.str (S r) := rfl
def sp_law_read : Sp := sp4 fun x y z u H Q _ => ∃ (p e q : Addr) (t s : Gt) (k : Nat), x = .ref p ∧ y = .ref e ∧ z = .ref q ∧ u = .int (k : Int) ∧ DL H p (gd (rows t)) ∧ DL H e (natI (exts t)) ∧ DL H q (trs (subs t)) ∧ (subs t)[k]? = some s ∧ ∀ v H', Same H H' → TD H' v (rdT s) → Q v H'
theorem ok_law_read (T : Txt w K mg) {fd : FuncData} (F : Fn_law_read K fd) (hm : mg "_law_read" = some (.ref (He.ga K "_law_read")))  : CalX P w K mg base CX0 1 "_law_read" sp_law_read := by
  refine calx0 (k := 0) F hm sc_law_read (b_law_read F) (fun _ _ _ _ h => sp4_len h) (fun cdv A outer s H vs Q E hr h => ?_)
  obtain ⟨x0, x1, x2, x3, rfl, h⟩ := h
  refine ⟨_, (pss_cons (ps_if (PW.pt (pw_and (pt_cmpR op_eq (pe_ix ix_tup (pe_ix ix_list (pv 0) (pv 3) (fun _ _ => rfl)) pe_int (fun _ _ => rfl)) pe_str (nomark _)) (pw_and1 (pt_cmpR op_in_seq (pe_ix ix_tup (pe_ix ix_list (pv 0) (pv 3) (fun _ _ => rfl)) pe_int (fun _ _ => rfl)) (pe_lst (pa_cons pe_str (pa_cons pe_str pa_nil))) rfl))))
    (pss_one (ps_ret (pe_tup (pa_cons (pe_ix ix_tup (pe_ix ix_list (pv 0) (pv 3) (fun _ _ => rfl)) pe_int (fun _ _ => rfl)) pa_nil))))
    pss_nil)
    (pss_cons (ps_if (pt_cmpR op_eq (pe_ix ix_tup (pe_ix ix_list (pv 0) (pv 3) (fun _ _ => rfl)) pe_int (fun _ _ => rfl)) pe_str (nomark _))
    (pss_cons (ps_set (i := 4) sc_law_read.nd rfl (Or.inl rfl) (pe_ix ix_list (pv 0) (pe_op op_addI (pv 3) pe_int) (fun _ _ => rfl)))
    (pss_cons (ps_if (PW.pt (pw_and (pt_cmpR op_eq (pe_ix ix_tup (pv 4) pe_int (fun _ _ => rfl)) pe_str (nomark _)) (pw_and1 (pt_cmpR op_eq (pe_ix ix_tup (pv 4) pe_int (fun _ _ => rfl)) pe_str (nomark _)))))
    (pss_one (ps_ret (pe_tup (pa_cons pe_str (pa_cons (pe_ix ix_list (pv 2) (pe_op op_addI (pv 3) pe_int) (fun _ _ => rfl)) pa_nil)))))
    pss_nil)
    (pss_cons (ps_if (PW.pt (pw_and (pt_cmpR op_eq (pe_ix ix_tup (pv 4) pe_int (fun _ _ => rfl)) pe_str (nomark _)) (pw_and1 (pt_cmpR op_in_seq (pe_ix ix_tup (pv 4) pe_int (fun _ _ => rfl)) (pe_lst (pa_cons pe_str (pa_cons pe_str pa_nil))) rfl))))
    (pss_one (ps_ret (pe_tup (pa_cons (pe_ix ix_tup (pv 4) pe_int (fun _ _ => rfl)) (pa_cons (pe_ix ix_list (pv 2) (pe_op op_addI (pv 3) pe_int) (fun _ _ => rfl)) pa_nil)))))
    pss_nil)
    (pss_one (ps_if (PW.pt (pw_and (pt_cmpR op_eq (pe_ix ix_tup (pv 4) pe_int (fun _ _ => rfl)) pe_str (nomark _)) (pw_and1 (pt_cmpR op_eq (pe_ix ix_tup (pe_ix ix_list (pv 0) (pe_op op_addI (pv 3) pe_int) (fun _ _ => rfl)) pe_int (fun _ _ => rfl)) pe_str (nomark _)))))
    (pss_cons (ps_set (i := 5) sc_law_read.nd rfl (Or.inl rfl) (pe_ix ix_tup (pe_ix ix_list (pv 0) (pe_op op_addI (pv 3) pe_int) (fun _ _ => rfl)) pe_int (fun _ _ => rfl)))
    (pss_cons (ps_set (i := 6) sc_law_read.nd rfl (Or.inl rfl) (pe_op op_addI (pv 3) pe_int))
    (pss_cons (ps_set (i := 7) sc_law_read.nd rfl (Or.inl rfl) (pe_op op_addI (pv 6) (pe_ix ix_list (pv 1) (pv 6) (fun _ _ => rfl))))
    (pss_cons (ps_if (pt_cmpR op_eq (pv 5) pe_str (nomark _))
    (pss_one (ps_ret (pe_tup (pa_cons pe_str (pa_cons (pe_ix ix_list (pv 2) (pv 6) (fun _ _ => rfl)) (pa_cons (pe_ix ix_list (pv 2) (pv 7) (fun _ _ => rfl)) pa_nil))))))
    pss_nil)
    (pss_cons (ps_if (pt_cmpR op_eq (pv 5) pe_str (nomark _))
    (pss_one (ps_ret (pe_tup (pa_cons pe_str (pa_cons (pe_ix ix_list (pv 2) (pv 6) (fun _ _ => rfl)) (pa_cons (pe_ix ix_list (pv 2) (pv 7) (fun _ _ => rfl)) pa_nil))))))
    pss_nil)
    (pss_cons (ps_if (pt_cmpR op_eq (pv 5) pe_str (nomark _))
    (pss_one (ps_ret (pe_tup (pa_cons pe_str (pa_cons (pe_ix ix_list (pv 2) (pv 6) (fun _ _ => rfl)) (pa_cons (pe_ix ix_list (pv 2) (pv 7) (fun _ _ => rfl)) pa_nil))))))
    pss_nil)
    (pss_one (ps_if (pt_cmpR op_eq (pv 5) pe_str (nomark _))
    (pss_one (ps_ret (pe_tup (pa_cons pe_str (pa_cons (pe_ix ix_list (pv 2) (pv 6) (fun _ _ => rfl)) (pa_cons (pe_ix ix_list (pv 2) (pv 7) (fun _ _ => rfl)) pa_nil))))))
    pss_nil))))))))
    pss_nil)))))
    pss_nil)
    (pss_one (ps_ret (pe_tup (pa_cons pe_str (pa_cons (pe_ix ix_list (pv 2) (pv 3) (fun _ _ => rfl)) pa_nil))))))), ?_⟩
  rw [show start ["code", "extents", "parts", "k", "head", "sign", "first", "other"] [x0, x1, x2, x3] = [some x0, some x1, some x2, some x3, none, none, none, none] from rfl]
  have ec0 : Str.ofString "app" = S [97,112,112] := S_ofs (by decide +kernel)
  have ec1 : Str.ofString "other" = S [111,116,104,101,114] := S_ofs (by decide +kernel)
  have ec2 : Str.ofString "const" = S [99,111,110,115,116] := S_ofs (by decide +kernel)
  have ec3 : Str.ofString "true" = S [116,114,117,101] := S_ofs (by decide +kernel)
  have ec4 : Str.ofString "false" = S [102,97,108,115,101] := S_ofs (by decide +kernel)
  have ec5 : Str.ofString "~" = S [126] := S_ofs (by decide +kernel)
  have ec6 : Str.ofString "not" = S [110,111,116] := S_ofs (by decide +kernel)
  have ec7 : Str.ofString "&" = S [38] := S_ofs (by decide +kernel)
  have ec8 : Str.ofString "|" = S [124] := S_ofs (by decide +kernel)
  have ec9 : Str.ofString "=>" = S [61,62] := S_ofs (by decide +kernel)
  have ec10 : Str.ofString "=" = S [61] := S_ofs (by decide +kernel)
  have ec11 : Str.ofString "all" = S [97,108,108] := S_ofs (by decide +kernel)
  have ec12 : Str.ofString "some" = S [115,111,109,101] := S_ofs (by decide +kernel)
  have ec13 : Str.ofString "and" = S [97,110,100] := S_ofs (by decide +kernel)
  have ec14 : Str.ofString "or" = S [111,114] := S_ofs (by decide +kernel)
  have ec15 : Str.ofString "implies" = S [105,109,112,108,105,101,115] := S_ofs (by decide +kernel)
  have ec16 : Str.ofString "equal" = S [101,113,117,97,108] := S_ofs (by decide +kernel)
  rw [ec0, ec1, ec2, ec3, ec4, ec5, ec6, ec7, ec8, ec9, ec10, ec11, ec12, ec13, ec14, ec15, ec16]
  obtain ⟨p, e, q, t, s, k, rfl, rfl, rfl, rfl, hp, he, hq, es, hQ⟩ := h
  have er := rows_at es
  have et := trs_at es
  try dsimp only [cxOf]
  walk_at "v"
  have oth : ∀ {H' : Hp} {v4 v5 v6 v7 : Option V}, Same H H' → rdT s = otT s → (tRet (tTup (tCons (tC (.str (S [111,116,104,101,114]))) (tCons (tOp (rIxL K) (tVar 2) (tVar 3)) tNil)))) { nx := fun x H' => Q .non H', rt := Q } [some (.ref p), some (.ref e), some (.ref q), some (.int (k : Int)), v4, v5, v6, v7] H' := fun {H' v4 v5 v6 v7} s' e => by
    walk_at "v"
    refine w_tupN ?_
    walk_at "v"
    refine l_ix (hq.same s') et (fun y ty => ?_)
    walk_at "v"
    refine t_new (ds := [.str (S wOTHER), (upT s).d]) (.cons (.str _) (.cons ty .nil)) (fun z H2 hz s2 t2 => ?_)
    refine hQ _ H2 (s'.tr s2) ?_
    rw [e]; exact t2
  have row : ∀ {H' : Hp} {j : Nat} {f : Gt} {Q' : VK}, Same H H' → (subs t)[j]? = some f → (∀ y, TD H' y (upR (root f)).d → Q' y H') → rIxL K (.ref p) (.int (j : Int)) H' Q' := fun {H' j f Q'} s' ej kk => l_ix (hp.same s') (gd_at (rows_at ej)) kk
  have wrd : ∀ {H' : Hp} {f : Gt} {y : V} {Q' : VK}, TD H' y (upR (root f)).d → Q' (.str (S (gw (root f)))) H' → rIxT K y (.int 0) H' Q' := fun {H' f y Q'} ty kk => by
    obtain ⟨rest, ed⟩ := gw_d (root f)
    rw [ed] at ty
    exact t_ixS (n := 0) ty rfl kk
  refine row (Same.refl' H) es (fun y1 ty1 => ?_)
  walk_at "v"
  refine wrd ty1 ?_
  walk_at "v"
  by_cases hc : gw (root s) = wCONST
  · obtain ⟨w, kd, rfl⟩ := root_const hc
    have tc : ∀ {H' : Hp} {y : V}, TD H' y (upR (root (.tip (.cst w kd)))).d → TD H' y (.tuple [.str (S wCONST), .str (S w), kd.d]) := fun h => h
    have wrd : ∀ {H' : Hp} {y : V} {Q' : VK}, TD H' y (upR (root (.tip (.cst w kd)))).d → Q' (.str (S w)) H' → rIxT K y (.int 1) H' Q' := fun {H' y Q'} ty kk => t_ixS (n := 1) (tc ty) rfl kk
    rw [show decide (gw (root (.tip (.cst w kd))) = [99,111,110,115,116]) = true from decide_eq_true hc]
    walk_at "v"
    refine row (Same.refl' H) es (fun y2 ty2 => ?_)
    walk_at "v"
    refine wrd ty2 ?_
    walk_at "v"
    refine w_lstN ?_
    walk_at "v"
    refine n_L (fun pl H1 hpl s1 e1 => ?_)
    refine w_inLst (SqL.of e1) tf_vs ?_
    walk_at "v"
    refine w_dec (fun h4 => ?_) (fun h4 => ?_)
    · walk_at "v"
      refine w_tupN ?_
      walk_at "v"
      refine row s1 es (fun y3 ty3 => ?_)
      walk_at "v"
      refine wrd ty3 ?_
      walk_at "v"
      refine t_new (ds := [.str (S w)]) (.cons (.str _) .nil) (fun z H2 hz s2 t2 => ?_)
      refine hQ _ H2 (s1.tr s2) ?_
      have hw : ∀ w ∈ [gTRUE, gFALSE], w ∈ LOGIC ∧ rdN w = 0 ∧ rdW w = w := by decide +kernel
      obtain ⟨q1, q2, q3⟩ := hw w h4
      rw [show rdT (.tip (.cst w kd)) = rdH (.tip (.cst w kd)) [] (.tip (.cst w kd)) from rfl, rdH_yes q1 (by rw [q2]; rfl), q3]
      exact t2
    · walk_at "v"
      refine row s1 es (fun y3 ty3 => ?_)
      walk_at "v"
      refine t_ixS (n := 0) (tc ty3) rfl ?_
      walk_at "v"
      rw [show decide (wCONST = [97,112,112]) = false from by decide]
      walk_at "v"
      refine oth s1 ?_
      rw [show rdT (.tip (.cst w kd)) = rdH (.tip (.cst w kd)) [] (.tip (.cst w kd)) from rfl]
      exact rdH_no fun z z2 => h4 ((rdN_of z).1 z2.symm)
  rw [decide_eq_false hc]
  walk_at "v"
  refine row (Same.refl' H) es (fun y2 ty2 => ?_)
  walk_at "v"
  refine wrd ty2 ?_
  walk_at "v"
  by_cases ha : gw (root s) = wAPP
  · obtain ⟨f, a, rfl⟩ := root_app ha
    have ef := sub_fun es
    have ea := sub_arg es
    rw [show decide (gw (root (.app f a)) = [97,112,112]) = true from decide_eq_true ha]
    walk_at "v"
    rw [show ((k : Int) + 1) = ((k + 1 : Nat) : Int) by omega]
    refine row (Same.refl' H) ef (fun yh tyh => ?_)
    walk_at "v"
    refine wrd tyh ?_
    walk_at "v"
    by_cases hfc : gw (root f) = wCONST
    · obtain ⟨w, kd, rfl⟩ := root_const hfc
      have tc : TD H yh (.tuple [.str (S wCONST), .str (S w), kd.d]) := tyh
      have ea : (subs t)[k + 2]? = some a := ea
      have eta := trs_at ea
      rw [show decide (gw (root (.tip (.cst w kd))) = [99,111,110,115,116]) = true from decide_eq_true hfc]
      walk_at "v"
      refine t_ixS (n := 1) tc rfl ?_
      walk_at "v"
      refine w_dec (fun h1 => ?_) (fun h1 => ?_)
      · have h1 : w = gNOT := h1
        subst h1
        walk_at "v"
        refine w_tupN ?_
        walk_at "v"
        rw [show ((k : Int) + 2) = ((k + 2 : Nat) : Int) by omega]
        refine l_ix hq eta (fun y3 ty3 => ?_)
        walk_at "v"
        refine t_new (ds := [.str (S [110,111,116]), (upT a).d]) (.cons (.str _) (.cons ty3 .nil)) (fun z H2 hz s2 t2 => ?_)
        refine hQ _ H2 s2 ?_
        rw [show rdT (.app (.tip (.cst gNOT kd)) a) = rdH (.tip (.cst gNOT kd)) [a] (.app (.tip (.cst gNOT kd)) a) from rfl, rdH_yes (by decide) (by rw [rd_2.2]; rfl), rd_2.1]
        exact t2
      · walk_at "v"
        refine wrd (f := .tip (.cst w kd)) tyh ?_
        walk_at "v"
        rw [show decide (gw (root (.tip (.cst w kd))) = [99,111,110,115,116]) = true from decide_eq_true hfc]
        walk_at "v"
        refine t_ixS (n := 1) tc rfl ?_
        walk_at "v"
        refine w_lstN ?_
        walk_at "v"
        refine n_L (fun pl H1 hpl s1 e1 => ?_)
        refine w_inLst (SqL.of e1) as_vs ?_
        walk_at "v"
        have tc1 := tc.tm (Tm.same s1)
        refine w_dec (fun h4 => ?_) (fun h4 => ?_)
        · walk_at "v"
          refine w_tupN ?_
          walk_at "v"
          refine t_ixS (n := 1) tc1 rfl ?_
          walk_at "v"
          rw [show ((k : Int) + 2) = ((k + 2 : Nat) : Int) by omega]
          refine l_ix (hq.same s1) eta (fun y3 ty3 => ?_)
          walk_at "v"
          refine t_new (ds := [.str (S w), (upT a).d]) (.cons (.str _) (.cons ty3 .nil)) (fun z H2 hz s2 t2 => ?_)
          refine hQ _ H2 (s1.tr s2) ?_
          have hw : ∀ w ∈ [gALL, gSOME], w ∈ LOGIC ∧ rdN w = 1 ∧ rdW w = w := by decide +kernel
          obtain ⟨q1, q2, q3⟩ := hw w h4
          rw [show rdT (.app (.tip (.cst w kd)) a) = rdH (.tip (.cst w kd)) [a] (.app (.tip (.cst w kd)) a) from rfl, rdH_yes q1 (by rw [q2]; rfl), q3]
          exact t2
        · walk_at "v"
          refine t_ixS (n := 0) tc1 rfl ?_
          walk_at "v"
          rw [show decide (wCONST = [97,112,112]) = false from by decide]
          walk_at "v"
          refine oth s1 ?_
          rw [show rdT (.app (.tip (.cst w kd)) a) = rdH (.tip (.cst w kd)) [a] (.app (.tip (.cst w kd)) a) from rfl]
          exact rdH_no fun z z2 => ((rdN_of z).2.1 z2.symm).elim h1 h4
    rw [decide_eq_false hfc]
    walk_at "v"
    refine wrd tyh ?_
    walk_at "v"
    rw [decide_eq_false hfc]
    walk_at "v"
    refine wrd tyh ?_
    walk_at "v"
    by_cases hfa : gw (root f) = wAPP
    · obtain ⟨g, b, rfl⟩ := root_app hfa
      have eg := sub_fun ef
      rw [show decide (gw (root (.app g b)) = [97,112,112]) = true from decide_eq_true hfa]
      walk_at "v"
      rw [show ((k : Int) + 2) = ((k + 1 + 1 : Nat) : Int) by omega]
      refine row (Same.refl' H) eg (fun yg tyg => ?_)
      walk_at "v"
      refine wrd tyg ?_
      walk_at "v"
      by_cases hgc : gw (root g) = wCONST
      · obtain ⟨w, kd, rfl⟩ := root_const hgc
        have eb := sub_arg ef
        have eb : (subs t)[k + 3]? = some b := eb
        have ea : (subs t)[k + 3 + b.nodes]? = some a := by
          have := ea
          rw [show k + 1 + (Tr.app (.tip (.cst w kd)) b : Gt).nodes = k + 3 + b.nodes by show k + 1 + (1 + b.nodes + 1) = _; omega] at this
          exact this
        have etb := trs_at eb
        have eta := trs_at ea
        have exb := exts_at eb
        rw [show decide (gw (root (.tip (.cst w kd))) = [99,111,110,115,116]) = true from decide_eq_true hgc]
        walk_at "v"
        rw [show ((k : Int) + 2) = ((k + 1 + 1 : Nat) : Int) by omega]
        refine row (Same.refl' H) eg (fun yg2 tyg2 => ?_)
        walk_at "v"
        have tc : TD H yg2 (.tuple [.str (S wCONST), .str (S w), kd.d]) := tyg2
        refine t_ixS (n := 1) tc rfl ?_
        walk_at "v"
        rw [show ((k : Int) + 3) = ((k + 3 : Nat) : Int) by omega]
        refine l_ix he (natI_at exb) (fun ye tye => ?_)
        rw [tye.num]
        walk_at "v"
        have eR : rdT (.app (.app (.tip (.cst w kd)) b) a) = rdH (.tip (.cst w kd)) [b, a] (.app (.app (.tip (.cst w kd)) b) a) := rfl
        have two : ∀ {u : List Nat}, w ∈ LOGIC → rdN w = 2 → rdW w = u → (tRet (tTup (tCons (tC (.str (S u))) (tCons (tOp (rIxL K) (tVar 2) (tVar 6)) (tCons (tOp (rIxL K) (tVar 2) (tVar 7)) tNil))))) { nx := fun x H' => Q .non H', rt := Q } [some (.ref p), some (.ref e), some (.ref q), some (.int (k : Int)), some yh, some (.str (S w)), some (.int ((k + 3 : Nat) : Int)), some (.int (((k + 3 : Nat) : Int) + (b.nodes : Int)))] H := fun {u} q1 q2 q3 => by
          walk_at "v"
          refine w_tupN ?_
          walk_at "v"
          refine l_ix hq etb (fun z1 tz1 => ?_)
          walk_at "v"
          rw [show (((k + 3 : Nat) : Int) + (b.nodes : Int)) = ((k + 3 + b.nodes : Nat) : Int) by omega]
          refine l_ix hq eta (fun z2 tz2 => ?_)
          walk_at "v"
          refine t_new (ds := [.str (S u), (upT b).d, (upT a).d]) (.cons (.str _) (.cons tz1 (.cons tz2 .nil))) (fun z H2 hz s2 t2 => ?_)
          refine hQ _ H2 s2 ?_
          rw [eR, rdH_yes q1 (by rw [q2]; rfl), q3]
          exact t2
        refine w_dec (fun h1 => ?_) (fun h1 => ?_)
        · have h1 : w = gAND := h1
          subst h1
          walk_at "v"
          exact two (by decide) rd_3.2 rd_3.1
        walk_at "v"
        refine w_dec (fun h2 => ?_) (fun h2 => ?_)
        · have h2 : w = gOR := h2
          subst h2
          walk_at "v"
          exact two (by decide) rd_4.2 rd_4.1
        walk_at "v"
        refine w_dec (fun h3 => ?_) (fun h3 => ?_)
        · have h3 : w = gIMP := h3
          subst h3
          walk_at "v"
          exact two (by decide) rd_5.2 rd_5.1
        walk_at "v"
        refine w_dec (fun h4 => ?_) (fun h4 => ?_)
        · have h4 : w = gEQ := h4
          subst h4
          walk_at "v"
          exact two (by decide) rd_6.2 rd_6.1
        walk_at "v"
        refine oth (Same.refl' H) ?_
        rw [eR]
        refine rdH_no fun z z2 => ?_
        rcases (rdN_of z).2.2 z2.symm with h | h | h | h
        · exact h1 h
        · exact h2 h
        · exact h3 h
        · exact h4 h
      · rw [decide_eq_false hgc]
        walk_at "v"
        exact oth (Same.refl' H) (rd_two hgc)
    · rw [decide_eq_false hfa]
      walk_at "v"
      exact oth (Same.refl' H) (rd_one hfa hfc)
  · rw [decide_eq_false ha]
    walk_at "v"
    refine oth (Same.refl' H) ?_
    refine rd_head fun w kd e => ?_
    rw [sp_leaf ha] at e
    have e : s = .tip (.cst w kd) := e
    rw [e] at hc; exact hc rfl

def sp_law_spine : Sp := sp4 fun x y z u H Q _ => ∃ (p e q : Addr) (t s : Gt) (k : Nat), x = .ref p ∧ y = .ref e ∧ z = .ref q ∧ u = .int (k : Int) ∧ DL H p (gd (rows t)) ∧ DL H e (natI (exts t)) ∧ DL H q (trs (subs t)) ∧ t.nodes ≤ 1000 ∧ (subs t)[k]? = some s ∧ ∀ v H', Same H H' → TD H' v (spD s) → Q v H'
theorem ok_law_spine (T : Txt w K mg) {fd : FuncData} (F : Fn_law_spine K fd) (hm : mg "_law_spine" = some (.ref (He.ga K "_law_spine")))  : CalX P w K mg base CX0 1 "_law_spine" sp_law_spine := by
  refine calx0 (k := 0) F hm sc_law_spine (b_law_spine F) (fun _ _ _ _ h => sp4_len h) (fun cdv A outer s H vs Q E hr h => ?_)
  obtain ⟨x0, x1, x2, x3, rfl, h⟩ := h
  refine ⟨_, (pss_cons (ps_set (i := 4) sc_law_spine.nd rfl (Or.inl rfl) (pe_lst pa_nil))
    (pss_cons (ps_for PassesOwn.never rfl (pi_range1 (by rfl) T.f_range (pa_cons (pe_callB call_lenQ (by rfl) T.f_len PySem.boot_len (pa_cons (pv 0) pa_nil)) pa_nil)) (pg_name (i := 5) sc_law_spine.nd rfl (Or.inl rfl))
    (pss_cons (ps_if (pt_cmpR op_ne (pe_ix ix_tup (pe_ix ix_list (pv 0) (pv 3) (fun _ _ => rfl)) pe_int (fun _ _ => rfl)) pe_str (nomark _))
    (pss_one ps_break)
    pss_nil)
    (pss_cons (ps_set (i := 4) sc_law_spine.nd rfl (Or.inl rfl) (pe_op op_cat (pe_lst (pa_cons (pe_ix ix_list (pv 2) (pe_op op_addI (pe_op op_addI (pv 3) pe_int) (pe_ix ix_list (pv 1) (pe_op op_addI (pv 3) pe_int) (fun _ _ => rfl))) (fun _ _ => rfl)) pa_nil)) (pv 4)))
    (pss_one (ps_set (i := 3) sc_law_spine.nd rfl (Or.inl rfl) (pe_op op_addI (pv 3) pe_int))))))
    (pss_one (ps_ret (pe_tup (pa_cons (pe_ix ix_list (pv 2) (pv 3) (fun _ _ => rfl)) (pa_cons (pe_callTy call_tupL (by rfl) T.f_tuple (by decide +kernel) (pa_cons (pv 4) pa_nil)) pa_nil))))))), ?_⟩
  rw [show start ["code", "extents", "parts", "k", "line", "turn"] [x0, x1, x2, x3] = [some x0, some x1, some x2, some x3, none, none] from rfl]
  have ec0 : Str.ofString "app" = S [97,112,112] := S_ofs (by decide +kernel)
  rw [ec0]
  obtain ⟨p, e, q, t, s, k, rfl, rfl, rfl, rfl, hp, he, hq, hn, es, hQ⟩ := h
  obtain ⟨N, hN⟩ : ∃ N, N = t.nodes := ⟨_, rfl⟩
  try dsimp only [cxOf]
  walk_at "v"
  refine ev_lst (ds := trs []) (by walk_at "d") (fun l0 H1 hl0 s1 d1 => ?_)
  walk_at "v"
  refine l_len (hp.same s1) ?_
  rw [gd_len, rows_len, ← hN]
  walk_at "v"
  refine w_rg1 (by omega) (by omega) ?_
  rw [show ((N : Int)).toNat = N from Int.toNat_natCast _]
  have fin : ∀ {G : Hp} {g' : Gt} {bs : List Gt} {j : Nat} {l : Addr} {v5 : Option V}, Same H G → (subs t)[j]? = some g' → gw (root g') ≠ wAPP → DL G l (trs bs) → spT s = ((spT g').1, (spT g').2 ++ bs) →
      (tRet (tTup (tCons (tOp (rIxL K) (tVar 2) (tVar 3)) (tCons (tCB (rTupL K) (tCons (tVar 4) tNil)) tNil)))) { nx := fun x H' => Q .non H', rt := Q } [some (.ref p), some (.ref e), some (.ref q), some (.int (j : Int)), some (.ref l), v5] G := fun {G g' bs j l v5} sg ej hg dl esp => by
    walk_at "v"
    refine w_tupN ?_
    walk_at "v"
    refine l_ix (hq.same sg) (trs_at ej) (fun y ty => ?_)
    walk_at "v"
    refine t_ofL dl (fun z H3 s3 t3 => ?_)
    walk_at "v"
    refine t_new (ds := [(upT g').d, .tuple (trs bs)]) (.cons (ty.tm (Tm.same s3)) (.cons t3 .nil)) (fun r H4 hr4 s4 t4 => ?_)
    refine hQ _ H4 ((sg.tr s3).tr s4) ?_
    rw [sp_leaf hg] at esp
    unfold spD
    rw [esp]; exact t4
  refine for_range (fun i σ H' => ∃ (g' : Gt) (bs : List Gt) (j : Nat) (l : Addr) (v5 : Option V), σ = [some (.ref p), some (.ref e), some (.ref q), some (.int (j : Int)), some (.ref l), v5] ∧ Same H H' ∧ (subs t)[j]? = some g' ∧ DL H' l (trs bs) ∧ spT s = ((spT g').1, (spT g').2 ++ bs) ∧ i + g'.nodes ≤ N ∧ bs.length ≤ i)
    ⟨s, [], k, l0, _, rfl, s1, es, d1, by rw [List.append_nil], by have := sub_fits es; omega, Nat.zero_le _⟩ ?_ ?_
  · rintro i σ G hi ⟨g', bs, j, l, v5, rfl, sg, ej, dl, esp, hn', hbl⟩
    have hi : i < N := hi
    dsimp only [gName]
    walk_at "v"
    refine l_ix (hp.same sg) (gd_at (rows_at ej)) (fun y ty => ?_)
    walk_at "v"
    obtain ⟨rest, ed⟩ := gw_d (root g')
    rw [ed] at ty
    refine t_ixS (n := 0) ty rfl ?_
    walk_at "v"
    by_cases hg : gw (root g') = wAPP
    · obtain ⟨f, a, rfl⟩ := root_app hg
      have ef := sub_fun ej
      have ea := sub_arg ej
      have hn' : i + (f.nodes + a.nodes + 1) ≤ N := hn'
      rw [show (!decide (gw (root (.app f a)) = [97,112,112])) = false from by rw [show decide (gw (root (.app f a)) = [97,112,112]) = true from decide_eq_true hg]; rfl]
      walk_at "v"
      refine w_lstN ?_
      walk_at "v"
      rw [show ((j : Int) + 1) = ((j + 1 : Nat) : Int) by omega]
      refine l_ix (he.same sg) (natI_at (exts_at ef)) (fun ye tye => ?_)
      rw [tye.num]
      walk_at "v"
      rw [show (((j + 1 : Nat) : Int) + (f.nodes : Int)) = ((j + 1 + f.nodes : Nat) : Int) by omega]
      refine l_ix (hq.same sg) (trs_at ea) (fun z1 tz1 => ?_)
      walk_at "v"
      refine l_new (ds := trs [a]) (.cons tz1 .nil) (fun l2 G2 hl2 s2 d2 => ?_)
      walk_at "v"
      refine l_cat d2 (dl.same s2) (fun l3 G3 hl3 s3 d3 => ?_) (by rw [trs_len', trs_len']; show 1 + bs.length ≤ 100000; omega)
      walk_at "v"
      refine ⟨f, a :: bs, j + 1, l3, _, by rw [show ((j : Int) + 1) = ((j + 1 : Nat) : Int) by omega], (sg.tr s2).tr s3, ef, d3, ?_, by have := nodes_pos a; omega, Nat.succ_le_succ hbl⟩
      rw [esp, spT_app, List.append_assoc]; rfl
    · rw [decide_eq_false hg, show (!false) = true from rfl]
      walk_at "v"
      exact fin sg ej hg dl esp
  · rintro σ G ⟨g', bs, j, l, v5, rfl, sg, ej, dl, esp, hn', hbl⟩
    have := nodes_pos g'
    omega

def sp_law_nested : Sp := sp2 fun x y H Q _ => ∃ (p : Addr) (w : List Nat) (gs : List Gt) (g : Gt), x = .ref p ∧ y = .str (S w) ∧ DL H p (trs (gs ++ [g])) ∧ gs.length ≤ 100 ∧ ∀ v H', Same H H' → TD H' v (upT (nestT w gs g)).d → Q v H'
theorem ok_law_nested (T : Txt w K mg) {fd : FuncData} (F : Fn_law_nested K fd) (hm : mg "_law_nested" = some (.ref (He.ga K "_law_nested")))  : CalX P w K mg base CX0 1 "_law_nested" sp_law_nested := by
  refine calx0 (k := 0) F hm sc_law_nested (b_law_nested F) (fun _ _ _ _ h => sp2_len h) (fun cdv A outer s H vs Q E hr h => ?_)
  obtain ⟨x0, x1, rfl, h⟩ := h
  refine ⟨_, (pss_cons (ps_set (i := 2) sc_law_nested.nd rfl (Or.inl rfl) (pe_tup (pa_cons pe_str (pa_cons pe_str pa_nil))))
    (pss_cons (ps_set (i := 3) sc_law_nested.nd rfl (Or.inl rfl) (pe_tup (pa_cons pe_str (pa_cons (pv 1) (pa_cons (pe_tup (pa_cons pe_str (pa_cons (pv 2) (pa_cons (pe_tup (pa_cons pe_str (pa_cons (pv 2) (pa_cons (pv 2) pa_nil)))) pa_nil)))) pa_nil)))))
    (pss_cons (ps_set (i := 4) sc_law_nested.nd rfl (Or.inl rfl) (pe_ix ix_list (pv 0) (pe_un un_neg pe_int) (fun _ _ => rfl)))
    (pss_cons (ps_for PassesOwn.never rfl (pi_list (pe_revL (pe_slice sl_list (pv 0) po_none (po_some (pe_un un_neg pe_int))))) (pg_name (i := 5) sc_law_nested.nd rfl (Or.inl rfl))
    (pss_one (ps_set (i := 4) sc_law_nested.nd rfl (Or.inl rfl) (pe_tup (pa_cons pe_str (pa_cons (pe_tup (pa_cons pe_str (pa_cons (pv 3) (pa_cons (pv 5) pa_nil)))) (pa_cons (pv 4) pa_nil)))))))
    (pss_one (ps_ret (pv 4))))))), ?_⟩
  rw [show start ["line", "sign", "truth", "head", "made", "part"] [x0, x1] = [some x0, some x1, none, none, none, none] from rfl]
  have ec0 : Str.ofString "named" = S [110,97,109,101,100] := S_ofs (by decide +kernel)
  have ec1 : Str.ofString "bool" = S [98,111,111,108] := S_ofs (by decide +kernel)
  have ec2 : Str.ofString "const" = S [99,111,110,115,116] := S_ofs (by decide +kernel)
  have ec3 : Str.ofString "to" = S [116,111] := S_ofs (by decide +kernel)
  have ec4 : Str.ofString "app" = S [97,112,112] := S_ofs (by decide +kernel)
  rw [ec0, ec1, ec2, ec3, ec4]
  obtain ⟨p, w, gs, g, rfl, rfl, hd, hl, hQ⟩ := h
  rw [show trs (gs ++ [g]) = trs gs ++ [(upT g).d] from by unfold trs; rw [List.map_append]; rfl] at hd
  try dsimp only [cxOf]
  walk_at "v"
  refine ev_go (d := bK.d) (by show Ev _ _ _ (.tuple [.str (S wNAMED), .str (S wBOOL)]); walk_at "d") (fun xb H1 s1 tb => ?_)
  walk_at "v"
  refine ev_go (d := (Lf.cst w (.to bK (.to bK bK))).d) (by
    show Ev _ _ _ (.tuple [.str (S wCONST), .str (S w), .tuple [.str (S wTO), bK.d, .tuple [.str (S wTO), bK.d, bK.d]]])
    walk_at "d") (fun xh H2 s2 th => ?_)
  walk_at "v"
  have s02 := s1.tr s2
  have hd2 := hd.same s02
  refine l_ixLast hd2 (fun y1 ty1 => ?_)
  walk_at "v"
  refine l_init hd2 (fun q0 H3 hq0 s3 d3 => ?_)
  walk_at "v"
  obtain ⟨xs, ea, ta⟩ := d3
  refine ⟨q0, xs, rfl, SqL.of ea, fun q hq => ?_⟩
  have s4 := same_upd (o := .lst xs.reverse) hq
  have eq := upd_same (H := H3) (a := q) (o := .lst xs.reverse)
  have tq := ta.rev.tm (Tm.same s4)
  have s34 := s3.tr s4
  generalize hG : upd H3 q (.lst xs.reverse) = H4 at *
  have lx : xs.length = gs.length := by rw [ta.len]; exact trs_len' gs
  refine w_lstI (SqL.of eq) ?_
  refine for_list (xs := xs.reverse) (fun i σ H' => ∃ (u : V) (v5 : Option V), σ = [some (.ref p), some (.str (S w)), some xb, some xh, some u, v5] ∧ Same H4 H' ∧ TD H' u (upT (nestT w (gs.drop (gs.length - i)) g)).d)
    ⟨y1, _, rfl, Same.refl' _, by rw [Nat.sub_zero, List.drop_length]; exact ty1.tm (Tm.same s34)⟩ (fun i σ H' _ h => by obtain ⟨_, _, _, h, _⟩ := h; exact SqL.of (h _ _ eq)) ?_ ?_
  · rintro i x σ G hx2 ⟨u, v5, rfl, sg, tu⟩
    obtain ⟨d, ed, td⟩ := (tq.tm (Tm.same sg)).get' hx2
    have hi : i < gs.length := by
      have := (List.getElem?_eq_some_iff.mp hx2).1
      rw [List.length_reverse, lx] at this; exact this
    have hlt : gs.length - (i + 1) < gs.length := by omega
    have ei := List.getElem?_eq_getElem hlt
    generalize gs[gs.length - (i + 1)] = k at ei
    rw [List.getElem?_reverse (by rw [trs_len']; exact hi), trs_len', show gs.length - 1 - i = gs.length - (i + 1) by omega, trs_at ei] at ed
    cases ed
    dsimp only [gName]
    walk_at "v"
    have thG := th.tm ((Tm.same s34).tr (Tm.same sg))
    refine ev_go (d := (upT (.app (.app (.tip (.cst w (.to bK (.to bK bK)))) k) (nestT w (gs.drop (gs.length - i)) g))).d) (by
      show Ev _ _ _ (.tuple [.str (S wAPP), .tuple [.str (S wAPP), (Lf.cst w (.to bK (.to bK bK))).d, (upT k).d], (upT (nestT w (gs.drop (gs.length - i)) g)).d])
      walk_at "d") (fun z G1 s1' t1' => ?_)
    walk_at "v"
    refine ⟨z, _, rfl, sg.tr s1', ?_⟩
    rw [nest_drop w gs g ei, show gs.length - (i + 1) + 1 = gs.length - i by omega]
    exact t1'
  · rintro σ G ⟨u, v5, rfl, sg, tu⟩
    rw [List.length_reverse, lx, Nat.sub_self, List.drop_zero] at tu
    walk_at "v"
    exact hQ u G ((s02.tr s34).tr sg) tu
theorem len_1 {l : List Gt} (h : l.length = 1) : ∃ a0 : Gt, l = [a0] := by
  match l, h with
  | [a0], _ => exact ⟨a0, rfl⟩
theorem len_2 {l : List Gt} (h : l.length = 2) : ∃ a0 a1 : Gt, l = [a0, a1] := by
  match l, h with
  | [a0, a1], _ => exact ⟨a0, a1, rfl⟩
theorem len_3 {l : List Gt} (h : l.length = 3) : ∃ a0 a1 a2 : Gt, l = [a0, a1, a2] := by
  match l, h with
  | [a0, a1, a2], _ => exact ⟨a0, a1, a2, rfl⟩
theorem len_4 {l : List Gt} (h : l.length = 4) : ∃ a0 a1 a2 a3 : Gt, l = [a0, a1, a2, a3] := by
  match l, h with
  | [a0, a1, a2, a3], _ => exact ⟨a0, a1, a2, a3, rfl⟩
theorem len_5 {l : List Gt} (h : l.length = 5) : ∃ a0 a1 a2 a3 a4 : Gt, l = [a0, a1, a2, a3, a4] := by
  match l, h with
  | [a0, a1, a2, a3, a4], _ => exact ⟨a0, a1, a2, a3, a4, rfl⟩
theorem len_6 {l : List Gt} (h : l.length = 6) : ∃ a0 a1 a2 a3 a4 a5 : Gt, l = [a0, a1, a2, a3, a4, a5] := by
  match l, h with
  | [a0, a1, a2, a3, a4, a5], _ => exact ⟨a0, a1, a2, a3, a4, a5, rfl⟩

def sp_law_conjunction : Sp := sp1 fun x H Q _ => ∃ (p : Addr) (gs : List Gt), x = .ref p ∧ DL H p (trs gs) ∧ 1 ≤ gs.length ∧ gs.length ≤ 6 ∧ ∀ as g, gs = as ++ [g] → ∀ v H', Same H H' → TD H' v (upT (nestT gAND as g)).d → Q v H'
theorem ok_law_conjunction (T : Txt w K mg) {fd : FuncData} (F : Fn_law_conjunction K fd) (hm : mg "_law_conjunction" = some (.ref (He.ga K "_law_conjunction"))) (c_conjunction : CalR P w K mg base CX0 3 "conjunction" sp_conjunction) : CalX P w K mg base CX0 4 "_law_conjunction" sp_law_conjunction := by
  refine calx0 (k := 3) F hm sc_law_conjunction (b_law_conjunction F) (fun _ _ _ _ h => sp1_len h) (fun cdv A outer s H vs Q E hr h => ?_)
  obtain ⟨x0, rfl, h⟩ := h
  refine ⟨_, (pss_cons (ps_if (pt_cmpR op_eq (pe_callB call_lenQ (by rfl) T.f_len PySem.boot_len (pa_cons (pv 0) pa_nil)) pe_int (nomark _))
    (pss_one (ps_ret (pe_cr c_conjunction hr (by decide) rfl pass0 (pa_cons (pe_ix ix_list (pv 0) pe_int (fun _ _ => rfl)) pa_nil))))
    pss_nil)
    (pss_cons (ps_if (pt_cmpR op_eq (pe_callB call_lenQ (by rfl) T.f_len PySem.boot_len (pa_cons (pv 0) pa_nil)) pe_int (nomark _))
    (pss_one (ps_ret (pe_cr c_conjunction hr (by decide) rfl pass0 (pa_cons (pe_ix ix_list (pv 0) pe_int (fun _ _ => rfl)) (pa_cons (pe_ix ix_list (pv 0) pe_int (fun _ _ => rfl)) pa_nil)))))
    pss_nil)
    (pss_cons (ps_if (pt_cmpR op_eq (pe_callB call_lenQ (by rfl) T.f_len PySem.boot_len (pa_cons (pv 0) pa_nil)) pe_int (nomark _))
    (pss_one (ps_ret (pe_cr c_conjunction hr (by decide) rfl pass0 (pa_cons (pe_ix ix_list (pv 0) pe_int (fun _ _ => rfl)) (pa_cons (pe_ix ix_list (pv 0) pe_int (fun _ _ => rfl)) (pa_cons (pe_ix ix_list (pv 0) pe_int (fun _ _ => rfl)) pa_nil))))))
    pss_nil)
    (pss_cons (ps_if (pt_cmpR op_eq (pe_callB call_lenQ (by rfl) T.f_len PySem.boot_len (pa_cons (pv 0) pa_nil)) pe_int (nomark _))
    (pss_one (ps_ret (pe_cr c_conjunction hr (by decide) rfl pass0 (pa_cons (pe_ix ix_list (pv 0) pe_int (fun _ _ => rfl)) (pa_cons (pe_ix ix_list (pv 0) pe_int (fun _ _ => rfl)) (pa_cons (pe_ix ix_list (pv 0) pe_int (fun _ _ => rfl)) (pa_cons (pe_ix ix_list (pv 0) pe_int (fun _ _ => rfl)) pa_nil)))))))
    pss_nil)
    (pss_cons (ps_if (pt_cmpR op_eq (pe_callB call_lenQ (by rfl) T.f_len PySem.boot_len (pa_cons (pv 0) pa_nil)) pe_int (nomark _))
    (pss_one (ps_ret (pe_cr c_conjunction hr (by decide) rfl pass0 (pa_cons (pe_ix ix_list (pv 0) pe_int (fun _ _ => rfl)) (pa_cons (pe_ix ix_list (pv 0) pe_int (fun _ _ => rfl)) (pa_cons (pe_ix ix_list (pv 0) pe_int (fun _ _ => rfl)) (pa_cons (pe_ix ix_list (pv 0) pe_int (fun _ _ => rfl)) (pa_cons (pe_ix ix_list (pv 0) pe_int (fun _ _ => rfl)) pa_nil))))))))
    pss_nil)
    (pss_one (ps_ret (pe_cr c_conjunction hr (by decide) rfl pass0 (pa_cons (pe_ix ix_list (pv 0) pe_int (fun _ _ => rfl)) (pa_cons (pe_ix ix_list (pv 0) pe_int (fun _ _ => rfl)) (pa_cons (pe_ix ix_list (pv 0) pe_int (fun _ _ => rfl)) (pa_cons (pe_ix ix_list (pv 0) pe_int (fun _ _ => rfl)) (pa_cons (pe_ix ix_list (pv 0) pe_int (fun _ _ => rfl)) (pa_cons (pe_ix ix_list (pv 0) pe_int (fun _ _ => rfl)) pa_nil)))))))))))))), ?_⟩
  rw [show start ["line"] [x0] = [some x0] from rfl]
  obtain ⟨p, gs, rfl, hd, hl1, hl2, hQ⟩ := h
  try dsimp only [cxOf]
  walk_at "v"
  have hd1 := hd
  refine l_len hd ?_
  rw [trs_len']
  walk_at "v"
  refine w_dec (fun e1 => ?_) (fun e1 => ?_)
  · obtain ⟨g1, rfl⟩ := len_1 (l := gs) (by omega)
    walk_at "v"
    refine l_ix (n := 0) hd rfl (fun y0 ty0 => ?_)
    walk_at "v"
    exact ⟨[], g1, (.cons ty0 .nil), Nat.le_of_ble_eq_true rfl, fun v H1 s1 t1 => hQ [] g1 rfl v H1 s1 t1⟩
  walk_at "v"
  refine l_len hd ?_
  rw [trs_len']
  walk_at "v"
  refine w_dec (fun e1 => ?_) (fun e1 => ?_)
  · obtain ⟨g1, g2, rfl⟩ := len_2 (l := gs) (by omega)
    walk_at "v"
    refine l_ix (n := 0) hd rfl (fun y0 ty0 => ?_)
    walk_at "v"
    refine l_ix (n := 1) hd rfl (fun y1 ty1 => ?_)
    walk_at "v"
    exact ⟨[g1], g2, (.cons ty0 (.cons ty1 .nil)), Nat.le_of_ble_eq_true rfl, fun v H1 s1 t1 => hQ [g1] g2 rfl v H1 s1 t1⟩
  walk_at "v"
  refine l_len hd ?_
  rw [trs_len']
  walk_at "v"
  refine w_dec (fun e1 => ?_) (fun e1 => ?_)
  · obtain ⟨g1, g2, g3, rfl⟩ := len_3 (l := gs) (by omega)
    walk_at "v"
    refine l_ix (n := 0) hd rfl (fun y0 ty0 => ?_)
    walk_at "v"
    refine l_ix (n := 1) hd rfl (fun y1 ty1 => ?_)
    walk_at "v"
    refine l_ix (n := 2) hd rfl (fun y2 ty2 => ?_)
    walk_at "v"
    exact ⟨[g1, g2], g3, (.cons ty0 (.cons ty1 (.cons ty2 .nil))), Nat.le_of_ble_eq_true rfl, fun v H1 s1 t1 => hQ [g1, g2] g3 rfl v H1 s1 t1⟩
  walk_at "v"
  refine l_len hd ?_
  rw [trs_len']
  walk_at "v"
  refine w_dec (fun e1 => ?_) (fun e1 => ?_)
  · obtain ⟨g1, g2, g3, g4, rfl⟩ := len_4 (l := gs) (by omega)
    walk_at "v"
    refine l_ix (n := 0) hd rfl (fun y0 ty0 => ?_)
    walk_at "v"
    refine l_ix (n := 1) hd rfl (fun y1 ty1 => ?_)
    walk_at "v"
    refine l_ix (n := 2) hd rfl (fun y2 ty2 => ?_)
    walk_at "v"
    refine l_ix (n := 3) hd rfl (fun y3 ty3 => ?_)
    walk_at "v"
    exact ⟨[g1, g2, g3], g4, (.cons ty0 (.cons ty1 (.cons ty2 (.cons ty3 .nil)))), Nat.le_of_ble_eq_true rfl, fun v H1 s1 t1 => hQ [g1, g2, g3] g4 rfl v H1 s1 t1⟩
  walk_at "v"
  refine l_len hd ?_
  rw [trs_len']
  walk_at "v"
  refine w_dec (fun e1 => ?_) (fun e1 => ?_)
  · obtain ⟨g1, g2, g3, g4, g5, rfl⟩ := len_5 (l := gs) (by omega)
    walk_at "v"
    refine l_ix (n := 0) hd rfl (fun y0 ty0 => ?_)
    walk_at "v"
    refine l_ix (n := 1) hd rfl (fun y1 ty1 => ?_)
    walk_at "v"
    refine l_ix (n := 2) hd rfl (fun y2 ty2 => ?_)
    walk_at "v"
    refine l_ix (n := 3) hd rfl (fun y3 ty3 => ?_)
    walk_at "v"
    refine l_ix (n := 4) hd rfl (fun y4 ty4 => ?_)
    walk_at "v"
    exact ⟨[g1, g2, g3, g4], g5, (.cons ty0 (.cons ty1 (.cons ty2 (.cons ty3 (.cons ty4 .nil))))), Nat.le_of_ble_eq_true rfl, fun v H1 s1 t1 => hQ [g1, g2, g3, g4] g5 rfl v H1 s1 t1⟩
  walk_at "v"
  obtain ⟨g1, g2, g3, g4, g5, g6, rfl⟩ := len_6 (l := gs) (by omega)
  walk_at "v"
  refine l_ix (n := 0) hd rfl (fun y0 ty0 => ?_)
  walk_at "v"
  refine l_ix (n := 1) hd rfl (fun y1 ty1 => ?_)
  walk_at "v"
  refine l_ix (n := 2) hd rfl (fun y2 ty2 => ?_)
  walk_at "v"
  refine l_ix (n := 3) hd rfl (fun y3 ty3 => ?_)
  walk_at "v"
  refine l_ix (n := 4) hd rfl (fun y4 ty4 => ?_)
  walk_at "v"
  refine l_ix (n := 5) hd rfl (fun y5 ty5 => ?_)
  walk_at "v"
  exact ⟨[g1, g2, g3, g4, g5], g6, (.cons ty0 (.cons ty1 (.cons ty2 (.cons ty3 (.cons ty4 (.cons ty5 .nil)))))), Nat.le_of_ble_eq_true rfl, fun v H1 s1 t1 => hQ [g1, g2, g3, g4, g5] g6 rfl v H1 s1 t1⟩


def sp_law_disjunction : Sp := sp1 fun x H Q _ => ∃ (p : Addr) (gs : List Gt), x = .ref p ∧ DL H p (trs gs) ∧ 1 ≤ gs.length ∧ gs.length ≤ 6 ∧ ∀ as g, gs = as ++ [g] → ∀ v H', Same H H' → TD H' v (upT (nestT gOR as g)).d → Q v H'
theorem ok_law_disjunction (T : Txt w K mg) {fd : FuncData} (F : Fn_law_disjunction K fd) (hm : mg "_law_disjunction" = some (.ref (He.ga K "_law_disjunction"))) (c_disjunction : CalR P w K mg base CX0 3 "disjunction" sp_disjunction) : CalX P w K mg base CX0 4 "_law_disjunction" sp_law_disjunction := by
  refine calx0 (k := 3) F hm sc_law_disjunction (b_law_disjunction F) (fun _ _ _ _ h => sp1_len h) (fun cdv A outer s H vs Q E hr h => ?_)
  obtain ⟨x0, rfl, h⟩ := h
  refine ⟨_, (pss_cons (ps_if (pt_cmpR op_eq (pe_callB call_lenQ (by rfl) T.f_len PySem.boot_len (pa_cons (pv 0) pa_nil)) pe_int (nomark _))
    (pss_one (ps_ret (pe_cr c_disjunction hr (by decide) rfl pass0 (pa_cons (pe_ix ix_list (pv 0) pe_int (fun _ _ => rfl)) pa_nil))))
    pss_nil)
    (pss_cons (ps_if (pt_cmpR op_eq (pe_callB call_lenQ (by rfl) T.f_len PySem.boot_len (pa_cons (pv 0) pa_nil)) pe_int (nomark _))
    (pss_one (ps_ret (pe_cr c_disjunction hr (by decide) rfl pass0 (pa_cons (pe_ix ix_list (pv 0) pe_int (fun _ _ => rfl)) (pa_cons (pe_ix ix_list (pv 0) pe_int (fun _ _ => rfl)) pa_nil)))))
    pss_nil)
    (pss_cons (ps_if (pt_cmpR op_eq (pe_callB call_lenQ (by rfl) T.f_len PySem.boot_len (pa_cons (pv 0) pa_nil)) pe_int (nomark _))
    (pss_one (ps_ret (pe_cr c_disjunction hr (by decide) rfl pass0 (pa_cons (pe_ix ix_list (pv 0) pe_int (fun _ _ => rfl)) (pa_cons (pe_ix ix_list (pv 0) pe_int (fun _ _ => rfl)) (pa_cons (pe_ix ix_list (pv 0) pe_int (fun _ _ => rfl)) pa_nil))))))
    pss_nil)
    (pss_cons (ps_if (pt_cmpR op_eq (pe_callB call_lenQ (by rfl) T.f_len PySem.boot_len (pa_cons (pv 0) pa_nil)) pe_int (nomark _))
    (pss_one (ps_ret (pe_cr c_disjunction hr (by decide) rfl pass0 (pa_cons (pe_ix ix_list (pv 0) pe_int (fun _ _ => rfl)) (pa_cons (pe_ix ix_list (pv 0) pe_int (fun _ _ => rfl)) (pa_cons (pe_ix ix_list (pv 0) pe_int (fun _ _ => rfl)) (pa_cons (pe_ix ix_list (pv 0) pe_int (fun _ _ => rfl)) pa_nil)))))))
    pss_nil)
    (pss_cons (ps_if (pt_cmpR op_eq (pe_callB call_lenQ (by rfl) T.f_len PySem.boot_len (pa_cons (pv 0) pa_nil)) pe_int (nomark _))
    (pss_one (ps_ret (pe_cr c_disjunction hr (by decide) rfl pass0 (pa_cons (pe_ix ix_list (pv 0) pe_int (fun _ _ => rfl)) (pa_cons (pe_ix ix_list (pv 0) pe_int (fun _ _ => rfl)) (pa_cons (pe_ix ix_list (pv 0) pe_int (fun _ _ => rfl)) (pa_cons (pe_ix ix_list (pv 0) pe_int (fun _ _ => rfl)) (pa_cons (pe_ix ix_list (pv 0) pe_int (fun _ _ => rfl)) pa_nil))))))))
    pss_nil)
    (pss_one (ps_ret (pe_cr c_disjunction hr (by decide) rfl pass0 (pa_cons (pe_ix ix_list (pv 0) pe_int (fun _ _ => rfl)) (pa_cons (pe_ix ix_list (pv 0) pe_int (fun _ _ => rfl)) (pa_cons (pe_ix ix_list (pv 0) pe_int (fun _ _ => rfl)) (pa_cons (pe_ix ix_list (pv 0) pe_int (fun _ _ => rfl)) (pa_cons (pe_ix ix_list (pv 0) pe_int (fun _ _ => rfl)) (pa_cons (pe_ix ix_list (pv 0) pe_int (fun _ _ => rfl)) pa_nil)))))))))))))), ?_⟩
  rw [show start ["line"] [x0] = [some x0] from rfl]
  obtain ⟨p, gs, rfl, hd, hl1, hl2, hQ⟩ := h
  try dsimp only [cxOf]
  walk_at "v"
  have hd1 := hd
  refine l_len hd ?_
  rw [trs_len']
  walk_at "v"
  refine w_dec (fun e1 => ?_) (fun e1 => ?_)
  · obtain ⟨g1, rfl⟩ := len_1 (l := gs) (by omega)
    walk_at "v"
    refine l_ix (n := 0) hd rfl (fun y0 ty0 => ?_)
    walk_at "v"
    exact ⟨[], g1, (.cons ty0 .nil), Nat.le_of_ble_eq_true rfl, fun v H1 s1 t1 => hQ [] g1 rfl v H1 s1 t1⟩
  walk_at "v"
  refine l_len hd ?_
  rw [trs_len']
  walk_at "v"
  refine w_dec (fun e1 => ?_) (fun e1 => ?_)
  · obtain ⟨g1, g2, rfl⟩ := len_2 (l := gs) (by omega)
    walk_at "v"
    refine l_ix (n := 0) hd rfl (fun y0 ty0 => ?_)
    walk_at "v"
    refine l_ix (n := 1) hd rfl (fun y1 ty1 => ?_)
    walk_at "v"
    exact ⟨[g1], g2, (.cons ty0 (.cons ty1 .nil)), Nat.le_of_ble_eq_true rfl, fun v H1 s1 t1 => hQ [g1] g2 rfl v H1 s1 t1⟩
  walk_at "v"
  refine l_len hd ?_
  rw [trs_len']
  walk_at "v"
  refine w_dec (fun e1 => ?_) (fun e1 => ?_)
  · obtain ⟨g1, g2, g3, rfl⟩ := len_3 (l := gs) (by omega)
    walk_at "v"
    refine l_ix (n := 0) hd rfl (fun y0 ty0 => ?_)
    walk_at "v"
    refine l_ix (n := 1) hd rfl (fun y1 ty1 => ?_)
    walk_at "v"
    refine l_ix (n := 2) hd rfl (fun y2 ty2 => ?_)
    walk_at "v"
    exact ⟨[g1, g2], g3, (.cons ty0 (.cons ty1 (.cons ty2 .nil))), Nat.le_of_ble_eq_true rfl, fun v H1 s1 t1 => hQ [g1, g2] g3 rfl v H1 s1 t1⟩
  walk_at "v"
  refine l_len hd ?_
  rw [trs_len']
  walk_at "v"
  refine w_dec (fun e1 => ?_) (fun e1 => ?_)
  · obtain ⟨g1, g2, g3, g4, rfl⟩ := len_4 (l := gs) (by omega)
    walk_at "v"
    refine l_ix (n := 0) hd rfl (fun y0 ty0 => ?_)
    walk_at "v"
    refine l_ix (n := 1) hd rfl (fun y1 ty1 => ?_)
    walk_at "v"
    refine l_ix (n := 2) hd rfl (fun y2 ty2 => ?_)
    walk_at "v"
    refine l_ix (n := 3) hd rfl (fun y3 ty3 => ?_)
    walk_at "v"
    exact ⟨[g1, g2, g3], g4, (.cons ty0 (.cons ty1 (.cons ty2 (.cons ty3 .nil)))), Nat.le_of_ble_eq_true rfl, fun v H1 s1 t1 => hQ [g1, g2, g3] g4 rfl v H1 s1 t1⟩
  walk_at "v"
  refine l_len hd ?_
  rw [trs_len']
  walk_at "v"
  refine w_dec (fun e1 => ?_) (fun e1 => ?_)
  · obtain ⟨g1, g2, g3, g4, g5, rfl⟩ := len_5 (l := gs) (by omega)
    walk_at "v"
    refine l_ix (n := 0) hd rfl (fun y0 ty0 => ?_)
    walk_at "v"
    refine l_ix (n := 1) hd rfl (fun y1 ty1 => ?_)
    walk_at "v"
    refine l_ix (n := 2) hd rfl (fun y2 ty2 => ?_)
    walk_at "v"
    refine l_ix (n := 3) hd rfl (fun y3 ty3 => ?_)
    walk_at "v"
    refine l_ix (n := 4) hd rfl (fun y4 ty4 => ?_)
    walk_at "v"
    exact ⟨[g1, g2, g3, g4], g5, (.cons ty0 (.cons ty1 (.cons ty2 (.cons ty3 (.cons ty4 .nil))))), Nat.le_of_ble_eq_true rfl, fun v H1 s1 t1 => hQ [g1, g2, g3, g4] g5 rfl v H1 s1 t1⟩
  walk_at "v"
  obtain ⟨g1, g2, g3, g4, g5, g6, rfl⟩ := len_6 (l := gs) (by omega)
  walk_at "v"
  refine l_ix (n := 0) hd rfl (fun y0 ty0 => ?_)
  walk_at "v"
  refine l_ix (n := 1) hd rfl (fun y1 ty1 => ?_)
  walk_at "v"
  refine l_ix (n := 2) hd rfl (fun y2 ty2 => ?_)
  walk_at "v"
  refine l_ix (n := 3) hd rfl (fun y3 ty3 => ?_)
  walk_at "v"
  refine l_ix (n := 4) hd rfl (fun y4 ty4 => ?_)
  walk_at "v"
  refine l_ix (n := 5) hd rfl (fun y5 ty5 => ?_)
  walk_at "v"
  exact ⟨[g1, g2, g3, g4, g5], g6, (.cons ty0 (.cons ty1 (.cons ty2 (.cons ty3 (.cons ty4 (.cons ty5 .nil)))))), Nat.le_of_ble_eq_true rfl, fun v H1 s1 t1 => hQ [g1, g2, g3, g4, g5] g6 rfl v H1 s1 t1⟩


def sp_law_implication : Sp := sp1 fun x H Q _ => ∃ (p : Addr) (gs : List Gt), x = .ref p ∧ DL H p (trs gs) ∧ 1 ≤ gs.length ∧ gs.length ≤ 6 ∧ ∀ as g, gs = as ++ [g] → ∀ v H', Same H H' → TD H' v (upT (nestT gIMP as g)).d → Q v H'
theorem ok_law_implication (T : Txt w K mg) {fd : FuncData} (F : Fn_law_implication K fd) (hm : mg "_law_implication" = some (.ref (He.ga K "_law_implication"))) (c_implication : CalR P w K mg base CX0 3 "implication" sp_implication) : CalX P w K mg base CX0 4 "_law_implication" sp_law_implication := by
  refine calx0 (k := 3) F hm sc_law_implication (b_law_implication F) (fun _ _ _ _ h => sp1_len h) (fun cdv A outer s H vs Q E hr h => ?_)
  obtain ⟨x0, rfl, h⟩ := h
  refine ⟨_, (pss_cons (ps_if (pt_cmpR op_eq (pe_callB call_lenQ (by rfl) T.f_len PySem.boot_len (pa_cons (pv 0) pa_nil)) pe_int (nomark _))
    (pss_one (ps_ret (pe_cr c_implication hr (by decide) rfl pass0 (pa_cons (pe_ix ix_list (pv 0) pe_int (fun _ _ => rfl)) pa_nil))))
    pss_nil)
    (pss_cons (ps_if (pt_cmpR op_eq (pe_callB call_lenQ (by rfl) T.f_len PySem.boot_len (pa_cons (pv 0) pa_nil)) pe_int (nomark _))
    (pss_one (ps_ret (pe_cr c_implication hr (by decide) rfl pass0 (pa_cons (pe_ix ix_list (pv 0) pe_int (fun _ _ => rfl)) (pa_cons (pe_ix ix_list (pv 0) pe_int (fun _ _ => rfl)) pa_nil)))))
    pss_nil)
    (pss_cons (ps_if (pt_cmpR op_eq (pe_callB call_lenQ (by rfl) T.f_len PySem.boot_len (pa_cons (pv 0) pa_nil)) pe_int (nomark _))
    (pss_one (ps_ret (pe_cr c_implication hr (by decide) rfl pass0 (pa_cons (pe_ix ix_list (pv 0) pe_int (fun _ _ => rfl)) (pa_cons (pe_ix ix_list (pv 0) pe_int (fun _ _ => rfl)) (pa_cons (pe_ix ix_list (pv 0) pe_int (fun _ _ => rfl)) pa_nil))))))
    pss_nil)
    (pss_cons (ps_if (pt_cmpR op_eq (pe_callB call_lenQ (by rfl) T.f_len PySem.boot_len (pa_cons (pv 0) pa_nil)) pe_int (nomark _))
    (pss_one (ps_ret (pe_cr c_implication hr (by decide) rfl pass0 (pa_cons (pe_ix ix_list (pv 0) pe_int (fun _ _ => rfl)) (pa_cons (pe_ix ix_list (pv 0) pe_int (fun _ _ => rfl)) (pa_cons (pe_ix ix_list (pv 0) pe_int (fun _ _ => rfl)) (pa_cons (pe_ix ix_list (pv 0) pe_int (fun _ _ => rfl)) pa_nil)))))))
    pss_nil)
    (pss_cons (ps_if (pt_cmpR op_eq (pe_callB call_lenQ (by rfl) T.f_len PySem.boot_len (pa_cons (pv 0) pa_nil)) pe_int (nomark _))
    (pss_one (ps_ret (pe_cr c_implication hr (by decide) rfl pass0 (pa_cons (pe_ix ix_list (pv 0) pe_int (fun _ _ => rfl)) (pa_cons (pe_ix ix_list (pv 0) pe_int (fun _ _ => rfl)) (pa_cons (pe_ix ix_list (pv 0) pe_int (fun _ _ => rfl)) (pa_cons (pe_ix ix_list (pv 0) pe_int (fun _ _ => rfl)) (pa_cons (pe_ix ix_list (pv 0) pe_int (fun _ _ => rfl)) pa_nil))))))))
    pss_nil)
    (pss_one (ps_ret (pe_cr c_implication hr (by decide) rfl pass0 (pa_cons (pe_ix ix_list (pv 0) pe_int (fun _ _ => rfl)) (pa_cons (pe_ix ix_list (pv 0) pe_int (fun _ _ => rfl)) (pa_cons (pe_ix ix_list (pv 0) pe_int (fun _ _ => rfl)) (pa_cons (pe_ix ix_list (pv 0) pe_int (fun _ _ => rfl)) (pa_cons (pe_ix ix_list (pv 0) pe_int (fun _ _ => rfl)) (pa_cons (pe_ix ix_list (pv 0) pe_int (fun _ _ => rfl)) pa_nil)))))))))))))), ?_⟩
  rw [show start ["line"] [x0] = [some x0] from rfl]
  obtain ⟨p, gs, rfl, hd, hl1, hl2, hQ⟩ := h
  try dsimp only [cxOf]
  walk_at "v"
  have hd1 := hd
  refine l_len hd ?_
  rw [trs_len']
  walk_at "v"
  refine w_dec (fun e1 => ?_) (fun e1 => ?_)
  · obtain ⟨g1, rfl⟩ := len_1 (l := gs) (by omega)
    walk_at "v"
    refine l_ix (n := 0) hd rfl (fun y0 ty0 => ?_)
    walk_at "v"
    exact ⟨[], g1, (.cons ty0 .nil), Nat.le_of_ble_eq_true rfl, fun v H1 s1 t1 => hQ [] g1 rfl v H1 s1 t1⟩
  walk_at "v"
  refine l_len hd ?_
  rw [trs_len']
  walk_at "v"
  refine w_dec (fun e1 => ?_) (fun e1 => ?_)
  · obtain ⟨g1, g2, rfl⟩ := len_2 (l := gs) (by omega)
    walk_at "v"
    refine l_ix (n := 0) hd rfl (fun y0 ty0 => ?_)
    walk_at "v"
    refine l_ix (n := 1) hd rfl (fun y1 ty1 => ?_)
    walk_at "v"
    exact ⟨[g1], g2, (.cons ty0 (.cons ty1 .nil)), Nat.le_of_ble_eq_true rfl, fun v H1 s1 t1 => hQ [g1] g2 rfl v H1 s1 t1⟩
  walk_at "v"
  refine l_len hd ?_
  rw [trs_len']
  walk_at "v"
  refine w_dec (fun e1 => ?_) (fun e1 => ?_)
  · obtain ⟨g1, g2, g3, rfl⟩ := len_3 (l := gs) (by omega)
    walk_at "v"
    refine l_ix (n := 0) hd rfl (fun y0 ty0 => ?_)
    walk_at "v"
    refine l_ix (n := 1) hd rfl (fun y1 ty1 => ?_)
    walk_at "v"
    refine l_ix (n := 2) hd rfl (fun y2 ty2 => ?_)
    walk_at "v"
    exact ⟨[g1, g2], g3, (.cons ty0 (.cons ty1 (.cons ty2 .nil))), Nat.le_of_ble_eq_true rfl, fun v H1 s1 t1 => hQ [g1, g2] g3 rfl v H1 s1 t1⟩
  walk_at "v"
  refine l_len hd ?_
  rw [trs_len']
  walk_at "v"
  refine w_dec (fun e1 => ?_) (fun e1 => ?_)
  · obtain ⟨g1, g2, g3, g4, rfl⟩ := len_4 (l := gs) (by omega)
    walk_at "v"
    refine l_ix (n := 0) hd rfl (fun y0 ty0 => ?_)
    walk_at "v"
    refine l_ix (n := 1) hd rfl (fun y1 ty1 => ?_)
    walk_at "v"
    refine l_ix (n := 2) hd rfl (fun y2 ty2 => ?_)
    walk_at "v"
    refine l_ix (n := 3) hd rfl (fun y3 ty3 => ?_)
    walk_at "v"
    exact ⟨[g1, g2, g3], g4, (.cons ty0 (.cons ty1 (.cons ty2 (.cons ty3 .nil)))), Nat.le_of_ble_eq_true rfl, fun v H1 s1 t1 => hQ [g1, g2, g3] g4 rfl v H1 s1 t1⟩
  walk_at "v"
  refine l_len hd ?_
  rw [trs_len']
  walk_at "v"
  refine w_dec (fun e1 => ?_) (fun e1 => ?_)
  · obtain ⟨g1, g2, g3, g4, g5, rfl⟩ := len_5 (l := gs) (by omega)
    walk_at "v"
    refine l_ix (n := 0) hd rfl (fun y0 ty0 => ?_)
    walk_at "v"
    refine l_ix (n := 1) hd rfl (fun y1 ty1 => ?_)
    walk_at "v"
    refine l_ix (n := 2) hd rfl (fun y2 ty2 => ?_)
    walk_at "v"
    refine l_ix (n := 3) hd rfl (fun y3 ty3 => ?_)
    walk_at "v"
    refine l_ix (n := 4) hd rfl (fun y4 ty4 => ?_)
    walk_at "v"
    exact ⟨[g1, g2, g3, g4], g5, (.cons ty0 (.cons ty1 (.cons ty2 (.cons ty3 (.cons ty4 .nil))))), Nat.le_of_ble_eq_true rfl, fun v H1 s1 t1 => hQ [g1, g2, g3, g4] g5 rfl v H1 s1 t1⟩
  walk_at "v"
  obtain ⟨g1, g2, g3, g4, g5, g6, rfl⟩ := len_6 (l := gs) (by omega)
  walk_at "v"
  refine l_ix (n := 0) hd rfl (fun y0 ty0 => ?_)
  walk_at "v"
  refine l_ix (n := 1) hd rfl (fun y1 ty1 => ?_)
  walk_at "v"
  refine l_ix (n := 2) hd rfl (fun y2 ty2 => ?_)
  walk_at "v"
  refine l_ix (n := 3) hd rfl (fun y3 ty3 => ?_)
  walk_at "v"
  refine l_ix (n := 4) hd rfl (fun y4 ty4 => ?_)
  walk_at "v"
  refine l_ix (n := 5) hd rfl (fun y5 ty5 => ?_)
  walk_at "v"
  exact ⟨[g1, g2, g3, g4, g5], g6, (.cons ty0 (.cons ty1 (.cons ty2 (.cons ty3 (.cons ty4 (.cons ty5 .nil)))))), Nat.le_of_ble_eq_true rfl, fun v H1 s1 t1 => hQ [g1, g2, g3, g4, g5] g6 rfl v H1 s1 t1⟩

end
end K03

namespace K03
open PySem PySem.Spec PyProof.Rows L2 SX K02 K01
local macro_rules | `(tactic| walk_at "w1") => `(tactic| (first
  | with_reducible refine w_seq ?_ | with_reducible refine w_asgN ?_ | with_reducible refine w_c ?_
  | ((with_reducible refine' w_var ?wv ?_); (case wv => exact rfl))
  | with_reducible refine w_op ?_ | with_reducible refine w_un ?_ | with_reducible refine w_next ?_ | with_reducible refine w_brk ?_ | with_reducible refine w_cnt ?_
  | with_reducible refine w_ifS ?_ | with_reducible refine w_if ?_ | with_reducible refine w_test ?_ | with_reducible refine w_tB ?_ | with_reducible refine w_bl ?_ | with_reducible refine w_blI ?_
  | with_reducible refine w_and ?_ | with_reducible refine w_or ?_ | with_reducible refine w_not ?_ | with_reducible refine w_andV ?_ | with_reducible refine w_orV ?_ | with_reducible refine w_notV ?_
  | with_reducible refine w_nil ?_ | with_reducible refine w_cons ?_ | with_reducible refine w_cb ?_ | with_reducible refine w_call ?_ | with_reducible refine w_callS ?_ | with_reducible refine w_chain ?_
  | with_reducible refine w_tupN ?_ | with_reducible refine w_lstN ?_ | with_reducible refine w_sl ?_ | with_reducible refine w_noPart ?_ | with_reducible refine w_part ?_ | with_reducible refine w_partI ?_
  | with_reducible refine w_ret ?_ | with_reducible refine w_retN ?_ | with_reducible refine w_drop ?_ | with_reducible refine w_asg ?_ | with_reducible refine w_gSub ?_
  | ((with_reducible refine' w_aug ?wv ?_); (case wv => exact rfl)) | with_reducible refine w_ipI ?_
  | with_reducible refine w_addI ?_ | with_reducible refine w_subI ?_ | with_reducible refine w_ltI ?_ | with_reducible refine w_leI ?_ | with_reducible refine w_gtI ?_ | with_reducible refine w_geI ?_
  | with_reducible refine w_eqI ?_ | with_reducible refine w_neI ?_ | with_reducible refine w_eqT ?_ | with_reducible refine w_neT ?_ | with_reducible refine w_inS ?_ | with_reducible refine w_ninS ?_
  | with_reducible refine w_absI ?_ | with_reducible refine w_intI ?_ | with_reducible refine w_maxI ?_ | with_reducible refine w_minI ?_
  | with_reducible refine w_for ?_ | with_reducible refine w_iR1 ?_ | with_reducible refine w_iR2 ?_ | with_reducible refine w_iStr ?_ | with_reducible refine w_strI ?_ | with_reducible refine w_iList ?_ | with_reducible refine w_iTup ?_
  | with_reducible refine w_bm ?_ | with_reducible refine w_bm0 ?_ | with_reducible refine w_t ?_ | with_reducible refine w_f ?_ | with_reducible refine w_nt ?_ | with_reducible refine w_nx ?_ | with_reducible refine w_rt ?_ | with_reducible refine w_bk ?_ | with_reducible refine w_ct ?_ | with_reducible refine w_nf ?_ | with_reducible refine w_lc ?_ | with_reducible refine w_yes ?_ | with_reducible refine w_neg ?_ | with_reducible refine w_intB ?_ | with_reducible refine w_fld ?_ | with_reducible refine w_setf ?_ | with_reducible refine w_faug ?_ | with_reducible refine w_meth ?_ | with_reducible refine w_bmS ?_ | with_reducible refine w_start ?_ | with_reducible refine w_revL ?_ | with_reducible refine w_iR3 ?_))
local macro_rules | `(tactic| walk_at "w") => `(tactic| (repeat (first | walk_at "w1" | dsimp (config := { proj := false }) only [List.set_cons_zero, List.set_cons_succ])))
section
variable {w : World} [Lit] {mg : Str → Option Value} {base : Heap}
local macro_rules | `(tactic| walk_at "v1") => `(tactic| (first
  | with_reducible refine w_seq ?_ | with_reducible refine w_asgN ?_ | with_reducible refine w_c ?_
  | ((with_reducible refine' w_var ?wv ?_); (case wv => exact rfl))
  | with_reducible refine w_op ?_ | with_reducible refine w_un ?_ | with_reducible refine w_next ?_ | with_reducible refine w_brk ?_ | with_reducible refine w_cnt ?_
  | with_reducible refine w_ifS ?_ | with_reducible refine w_if ?_ | with_reducible refine w_test ?_ | with_reducible refine w_tB ?_ | with_reducible refine w_bl ?_ | with_reducible refine w_blI ?_
  | with_reducible refine w_and ?_ | with_reducible refine w_or ?_ | with_reducible refine w_not ?_ | with_reducible refine w_andV ?_ | with_reducible refine w_orV ?_ | with_reducible refine w_notV ?_
  | with_reducible refine w_nil ?_ | with_reducible refine w_cons ?_ | with_reducible refine w_cb ?_ | with_reducible refine w_call ?_ | with_reducible refine w_callS ?_ | with_reducible refine w_chain ?_
  | with_reducible refine w_sl ?_ | with_reducible refine w_noPart ?_ | with_reducible refine w_part ?_ | with_reducible refine w_partI ?_
  | with_reducible refine w_ret ?_ | with_reducible refine w_retN ?_ | with_reducible refine w_drop ?_ | with_reducible refine w_asg ?_ | with_reducible refine w_gSub ?_
  | ((with_reducible refine' w_aug ?wv ?_); (case wv => exact rfl)) | with_reducible refine w_ipI ?_
  | with_reducible refine w_addI ?_ | with_reducible refine w_subI ?_ | with_reducible refine w_ltI ?_ | with_reducible refine w_leI ?_ | with_reducible refine w_gtI ?_ | with_reducible refine w_geI ?_
  | with_reducible refine w_eqI ?_ | with_reducible refine w_neI ?_ | with_reducible refine w_eqT ?_ | with_reducible refine w_neT ?_ | with_reducible refine w_inS ?_ | with_reducible refine w_ninS ?_
  | with_reducible refine w_absI ?_ | with_reducible refine w_intI ?_ | with_reducible refine w_maxI ?_ | with_reducible refine w_minI ?_
  | with_reducible refine w_for ?_ | with_reducible refine w_iR1 ?_ | with_reducible refine w_iR2 ?_ | with_reducible refine w_iStr ?_ | with_reducible refine w_strI ?_ | with_reducible refine w_iList ?_ | with_reducible refine w_iTup ?_
  | with_reducible refine w_bm ?_ | with_reducible refine w_bm0 ?_ | with_reducible refine w_t ?_ | with_reducible refine w_f ?_ | with_reducible refine w_nt ?_ | with_reducible refine w_nx ?_ | with_reducible refine w_rt ?_ | with_reducible refine w_bk ?_ | with_reducible refine w_ct ?_ | with_reducible refine w_nf ?_ | with_reducible refine w_lc ?_ | with_reducible refine w_yes ?_ | with_reducible refine w_neg ?_ | with_reducible refine w_intB ?_ | with_reducible refine w_fld ?_ | with_reducible refine w_setf ?_ | with_reducible refine w_faug ?_ | with_reducible refine w_meth ?_ | with_reducible refine w_bmS ?_ | with_reducible refine w_start ?_ | with_reducible refine w_revL ?_ | with_reducible refine w_iR3 ?_))
local macro_rules | `(tactic| walk_at "v") => `(tactic| (repeat (first | walk_at "v1" | dsimp (config := { proj := false }) only [List.set_cons_zero, List.set_cons_succ])))
local macro_rules | `(tactic| walk_at "d") => `(tactic| (repeat (first | exact eva_nil | refine eva_cons ?_ ?_ | exact ev_str | exact ev_int | exact ev_neg | refine ev_tup ?_ | exact ev_var rfl (.str _) | exact ev_var rfl (.int _) | (refine ev_var rfl ?_; assumption))))


def stP (st : List (Gt × List Nat)) : List PyData := (st.map fun e => plD e.2).reverse
theorem stP_cons (e : Gt × List Nat) (st : List (Gt × List Nat)) : stP (e :: st) = stP st ++ [plD e.2] := by unfold stP; rw [List.map_cons, List.reverse_cons]
theorem stP_len (st : List (Gt × List Nat)) : (stP st).length = st.length := by unfold stP; rw [List.length_reverse, List.length_map]
def stR (st : List (Gt × List Nat)) : List G2 := (st.map fun e => rows e.1).flatten
def stL (st : List (Gt × List Nat)) : List (List Nat) := (st.map fun e => plT e.1 e.2).flatten
theorem stR_len : ∀ st : List (Gt × List Nat), st.length ≤ (stR st).length
  | [] => Nat.zero_le _
  | e :: st => by
    have := stR_len st
    have h := nodes_pos e.1
    show st.length + 1 ≤ (rows e.1 ++ stR st).length
    rw [List.length_append, rows_len]; omega
theorem stR_cons (e : Gt × List Nat) (st : List (Gt × List Nat)) : stR (e :: st) = rows e.1 ++ stR st := rfl
theorem stL_cons (e : Gt × List Nat) (st : List (Gt × List Nat)) : stL (e :: st) = plT e.1 e.2 ++ stL st := rfl
theorem plD_snoc (p : List Nat) (n : Nat) : plD (p ++ [n]) = .tuple ((p.map fun (n : Nat) => PyData.int (n : Int)) ++ [.int (n : Int)]) := by unfold plD; rw [List.map_append]; rfl
def sp_law_spots : Sp := sp1 fun x H Q _ => ∃ (p : Addr) (t : Gt), x = .ref p ∧ DL H p (gd (rows t)) ∧ t.nodes ≤ 1000 ∧ ∀ q H', H q = none → Same H H' → DL H' q ((plT t []).map plD) → Q (.ref q) H'
theorem ok_law_spots (T : Txt w K mg) {fd : FuncData} (F : Fn_law_spots K fd) (hm : mg "_law_spots" = some (.ref (He.ga K "_law_spots")))  : CalX P w K mg base CX0 1 "_law_spots" sp_law_spots := by
  refine calx0 (k := 0) F hm sc_law_spots (b_law_spots F) (fun _ _ _ _ h => sp1_len h) (fun cdv A outer s H vs Q E hr h => ?_)
  obtain ⟨x0, rfl, h⟩ := h
  refine ⟨_, (pss_cons (ps_set (i := 1) sc_law_spots.nd rfl (Or.inl rfl) (pe_lst (pa_cons (pe_tup pa_nil) pa_nil)))
    (pss_cons (ps_set (i := 2) sc_law_spots.nd rfl (Or.inl rfl) (pe_lst pa_nil))
    (pss_cons (ps_for PassesOwn.never rfl (pi_list (pv 0)) (pg_name (i := 3) sc_law_spots.nd rfl (Or.inl rfl))
    (pss_cons (ps_set (i := 4) sc_law_spots.nd rfl (Or.inl rfl) (pe_bm0 PySem.F.plainAttrs_list PySem.F.slot_list_pop PySem.F.type_list_pop mt_pop (pv 1)))
    (pss_cons (ps_expr (pe_bm PySem.F.plainAttrs_list PySem.F.slot_list_append PySem.F.type_list_append mt_append (pv 2) (pa_cons (pv 4) pa_nil)))
    (pss_one (ps_if (pt_cmpR op_eq (pe_ix ix_tup (pv 3) pe_int (fun _ _ => rfl)) pe_str (nomark _))
    (pss_cons (ps_expr (pe_bm PySem.F.plainAttrs_list PySem.F.slot_list_append PySem.F.type_list_append mt_append (pv 1) (pa_cons (pe_op op_catA (pv 4) (pe_tup (pa_cons pe_int pa_nil))) pa_nil)))
    (pss_one (ps_expr (pe_bm PySem.F.plainAttrs_list PySem.F.slot_list_append PySem.F.type_list_append mt_append (pv 1) (pa_cons (pe_op op_catA (pv 4) (pe_tup (pa_cons pe_int pa_nil))) pa_nil)))))
    (pss_one (ps_if (pt_cmpR op_eq (pe_ix ix_tup (pv 3) pe_int (fun _ _ => rfl)) pe_str (nomark _))
    (pss_one (ps_expr (pe_bm PySem.F.plainAttrs_list PySem.F.slot_list_append PySem.F.type_list_append mt_append (pv 1) (pa_cons (pe_op op_catA (pv 4) (pe_tup (pa_cons pe_int pa_nil))) pa_nil))))
    pss_nil)))))))
    (pss_one (ps_ret (pv 2)))))), ?_⟩
  rw [show start ["code", "todo", "spots", "row", "place"] [x0] = [some x0, none, none, none, none] from rfl]
  have ec0 : Str.ofString "app" = S [97,112,112] := S_ofs (by decide +kernel)
  have ec1 : Str.ofString "lam" = S [108,97,109] := S_ofs (by decide +kernel)
  rw [ec0, ec1]
  obtain ⟨p, t, rfl, hd, hn, hQ⟩ := h
  try dsimp only [cxOf]
  walk_at "v"
  refine ev_lst (ds := stP [(t, [])]) (eva_cons (ev_tup eva_nil) eva_nil) (fun td H1 htd s1 d1 => ?_)
  walk_at "v"
  refine ev_lst (ds := ([] : List (List Nat)).map plD) (by walk_at "d") (fun sp H2 hsp s2 d2 => ?_)
  walk_at "v"
  obtain ⟨xs, e0, t0⟩ := hd
  have lx : xs.length = t.nodes := by rw [t0.len, gd_len, rows_len]
  have s02 := s1.tr s2
  have hsp0 : H sp = none := s1.fresh hsp
  have hts : td ≠ sp := fun z => by obtain ⟨_, e⟩ := d1.lst; rw [z, hsp] at e; cases e
  refine w_lstI (SqL.of (s02 _ _ e0)) ?_
  refine for_list (xs := xs) (fun i σ H' => ∃ (st : List (Gt × List Nat)) (don : List (List Nat)) (v3 v4 : Option V), σ = [some (.ref p), some (.ref td), some (.ref sp), v3, v4] ∧ Same H H' ∧ DL H' td (stP st) ∧ DL H' sp (don.map plD) ∧ don ++ stL st = plT t [] ∧ (rows t).drop i = stR st ∧ (∀ e ∈ st, e.2.length + e.1.nodes ≤ t.nodes) ∧ don.length = i)
    ⟨[(t, [])], [], _, _, rfl, s02, d1.same s2, d2, by show [] ++ (plT t [] ++ []) = _; rw [List.append_nil]; rfl, by show rows t = rows t ++ []; rw [List.append_nil], fun e he => by rw [List.mem_singleton.mp he]; exact Nat.le_of_eq (Nat.zero_add _), rfl⟩ (fun i σ H' _ h => by obtain ⟨_, _, _, _, _, h, _⟩ := h; exact SqL.of (h _ _ e0)) ?_ ?_
  · rintro i x σ G hx ⟨st, don, v3, v4, rfl, sg, dt, ds, hlv, hdr, hle, hdl⟩
    have hi : i < t.nodes := by rw [← lx]; exact (List.getElem?_eq_some_iff.mp hx).1
    obtain ⟨s, es⟩ := subs_at hi
    have er := rows_at es
    obtain ⟨d, ed, tx⟩ := (t0.tm (Tm.same sg)).get' hx
    rw [gd_at er] at ed
    cases ed
    rw [drop_eq er] at hdr
    obtain ⟨⟨s', q⟩, st, rfl⟩ : ∃ e st', st = e :: st' := by
      cases st with
      | nil => cases hdr
      | cons e st => exact ⟨e, st, rfl⟩
    have hbl : stR st = stR st := rfl
    have hsl := stR_len st
    have hz : q.length + s'.nodes ≤ t.nodes := hle (s', q) List.mem_cons_self
    have hle' : ∀ e ∈ st, e.2.length + e.1.nodes ≤ t.nodes := fun e he => hle e (List.mem_cons_of_mem _ he)
    have hql : q.length ≤ 1000 := by have := nodes_pos s'; omega
    have hlr : (rows s').length + (stR st).length ≤ t.nodes := by
      have h := congrArg List.length hdr
      rw [stR_cons, List.length_append] at h
      show (rows s').length + _ ≤ _
      rw [List.length_cons, List.length_drop, rows_len] at h
      have h : t.nodes - (i + 1) + 1 = (rows s').length + (stR st).length := h
      omega
    have hst : st.length ≤ 1000 := by omega
    rw [stP_cons] at dt
    dsimp only [gName]
    walk_at "v"
    refine l_ty dt ?_
    walk_at "v"
    refine l_pop dt (fun y1 H4 ty1 d4 x4 => ?_)
    walk_at "v"
    obtain ⟨_, dtl⟩ := dt.lst
    have dr4 := ds.ex x4 hts.symm dtl
    refine l_ty dr4 ?_
    walk_at "v"
    refine l_app (d := plD q) dr4 ty1 (fun H5 d5 x5 => ?_) (by rw [List.length_map]; omega)
    have d45 := let ⟨_, e⟩ := dr4.lst; d4.ex x5 hts e
    walk_at "v"
    have tm5 := (dt.tm_ex x4).tr (dr4.tm_ex x5)
    have tx5 := tx.tm tm5
    have ty5 : TD H5 y1 (plD q) := ty1.tm (dr4.tm_ex x5)
    have s5 := (sg.ex htd x4).ex hsp0 x5
    have d5 : DL H5 sp ((don ++ [q]).map plD) := by rw [List.map_append]; exact d5
    have hdl5 : (don ++ [q]).length = i + 1 := by rw [List.length_append, hdl]; rfl
    have erow : rows s' ++ stR st = root s :: (rows t).drop (i + 1) := hdr.symm
    obtain ⟨rest, erd⟩ := gw_d (root s)
    have tdx5 : TD H5 x (.tuple (.str (S (gw (root s))) :: rest)) := by rw [← erd]; exact tx5
    refine t_ixS (n := 0) tdx5 rfl ?_
    walk_at "v"
    cases s' with
    | app f a =>
      have hrt : root s = .app := (List.cons.inj erow).1.symm
      have etl : rows f ++ (rows a ++ stR st) = (rows t).drop (i + 1) := by
        have h := (List.cons.inj erow).2
        rw [← h, ← List.append_assoc]; rfl
      rw [hrt, show decide (gw .app = [97, 112, 112]) = true from (show decide (wAPP = [97, 112, 112]) = true by decide)]
      have hz : q.length + (f.nodes + a.nodes + 1) ≤ t.nodes := hz
      walk_at "v"
      refine l_ty d45 ?_
      walk_at "v"
      refine w_tupN ?_
      walk_at "v"
      refine t_new (ds := [.int (1 : Nat)]) (.cons (.int _) .nil) (fun z61 G61 hz61 s61' tz61 => ?_)
      walk_at "v"
      refine t_catA (ty5.tm (Tm.same s61')) tz61 (fun z62 G62 s62' tz62 => ?_) (by rw [List.length_map]; show q.length + 1 ≤ 100000; omega)
      walk_at "v"
      have sg6 := s61'.tr s62'
      refine l_app (d := plD (q ++ [1])) (d45.same sg6) (by rw [plD_snoc]; exact tz62) (fun H6 d6' x6 => ?_) (by rw [stP_len]; omega)
      have dt6 : DL H6 td (stP ((a, q ++ [1]) :: st)) := by rw [stP_cons]; exact d6'
      obtain ⟨_, dl6⟩ := (d45.same sg6).lst
      have s6 := (s5.tr sg6).ex htd x6
      have ty6 : TD H6 y1 (plD q) := (ty5.tm (Tm.same sg6)).tm (Tm.ex dl6 x6)
      have ds6 := (d5.same sg6).ex x6 hts.symm dl6
      walk_at "v"
      refine l_ty dt6 ?_
      walk_at "v"
      refine w_tupN ?_
      walk_at "v"
      refine t_new (ds := [.int (0 : Nat)]) (.cons (.int _) .nil) (fun z71 G71 hz71 s71' tz71 => ?_)
      walk_at "v"
      refine t_catA (ty6.tm (Tm.same s71')) tz71 (fun z72 G72 s72' tz72 => ?_) (by rw [List.length_map]; show q.length + 1 ≤ 100000; omega)
      walk_at "v"
      have sg7 := s71'.tr s72'
      refine l_app (d := plD (q ++ [0])) (dt6.same sg7) (by rw [plD_snoc]; exact tz72) (fun H7 d7' x7 => ?_) (by rw [stP_len]; rw [List.length_cons]; omega)
      have dt7 : DL H7 td (stP ((f, q ++ [0]) :: (a, q ++ [1]) :: st)) := by rw [stP_cons]; exact d7'
      obtain ⟨_, dl7⟩ := (dt6.same sg7).lst
      have s7 := (s6.tr sg7).ex htd x7
      have ty7 : TD H7 y1 (plD q) := (ty6.tm (Tm.same sg7)).tm (Tm.ex dl7 x7)
      have ds7 := (ds6.same sg7).ex x7 hts.symm dl7
      walk_at "v"
      refine ⟨_, _, _, _, rfl, s7, dt7, ds7, ?_, ?_, fun e he => ?_, hdl5⟩
      · rw [← hlv, stL_cons, stL_cons, stL_cons, List.append_assoc]
        show don ++ ([q] ++ (plT f _ ++ (plT a _ ++ stL st))) = don ++ (q :: (plT f _ ++ plT a _) ++ stL st)
        simp only [List.cons_append, List.nil_append, List.append_assoc]
      · rw [stR_cons, stR_cons]; exact etl.symm
      · rcases List.mem_cons.mp he with rfl | he
        · show (q ++ [0]).length + f.nodes ≤ _
          rw [List.length_append]; show q.length + 1 + f.nodes ≤ _; omega
        rcases List.mem_cons.mp he with rfl | he
        · show (q ++ [1]).length + a.nodes ≤ _
          rw [List.length_append]; show q.length + 1 + a.nodes ≤ _; omega
        · exact hle' e he
    | lam j b =>
      have hrt : root s = .lam j := (List.cons.inj erow).1.symm
      have etl : rows b ++ stR st = (rows t).drop (i + 1) := (List.cons.inj erow).2
      rw [hrt, show decide (gw (.lam j) = [97, 112, 112]) = false from (show decide (wLAM = [97, 112, 112]) = false by decide)]
      have hz : q.length + (b.nodes + 1) ≤ t.nodes := hz
      walk_at "v"
      refine t_ixS (n := 0) tdx5 rfl ?_
      walk_at "v"
      rw [hrt, show decide (gw (.lam j) = [108, 97, 109]) = true from (show decide (wLAM = [108, 97, 109]) = true by decide)]
      walk_at "v"
      refine l_ty d45 ?_
      walk_at "v"
      refine w_tupN ?_
      walk_at "v"
      refine t_new (ds := [.int (0 : Nat)]) (.cons (.int _) .nil) (fun z61 G61 hz61 s61' tz61 => ?_)
      walk_at "v"
      refine t_catA (ty5.tm (Tm.same s61')) tz61 (fun z62 G62 s62' tz62 => ?_) (by rw [List.length_map]; show q.length + 1 ≤ 100000; omega)
      walk_at "v"
      have sg6 := s61'.tr s62'
      refine l_app (d := plD (q ++ [0])) (d45.same sg6) (by rw [plD_snoc]; exact tz62) (fun H6 d6' x6 => ?_) (by rw [stP_len]; omega)
      have dt6 : DL H6 td (stP ((b, q ++ [0]) :: st)) := by rw [stP_cons]; exact d6'
      obtain ⟨_, dl6⟩ := (d45.same sg6).lst
      have s6 := (s5.tr sg6).ex htd x6
      have ty6 : TD H6 y1 (plD q) := (ty5.tm (Tm.same sg6)).tm (Tm.ex dl6 x6)
      have ds6 := (d5.same sg6).ex x6 hts.symm dl6
      walk_at "v"
      refine ⟨_, _, _, _, rfl, s6, dt6, ds6, ?_, ?_, fun e he => ?_, hdl5⟩
      · rw [← hlv, stL_cons, stL_cons, List.append_assoc]; rfl
      · rw [stR_cons]; exact etl.symm
      · rcases List.mem_cons.mp he with rfl | he
        · show (q ++ [0]).length + b.nodes ≤ _
          rw [List.length_append]; show q.length + 1 + b.nodes ≤ _; omega
        · exact hle' e he
    | tip y =>
      have hrt : root s = .tip y := (List.cons.inj erow).1.symm
      have etl : stR st = (rows t).drop (i + 1) := (List.cons.inj erow).2
      have m12 := gw_tip y
      rw [hrt, show decide (gw (.tip y) = [97, 112, 112]) = false from decide_eq_false m12.1]
      walk_at "v"
      refine t_ixS (n := 0) tdx5 rfl ?_
      walk_at "v"
      rw [hrt, show decide (gw (.tip y) = [108, 97, 109]) = false from decide_eq_false m12.2]
      walk_at "v"
      refine ⟨_, _, _, _, rfl, s5, d45, d5, ?_, etl.symm, hle', hdl5⟩
      rw [← hlv, stL_cons, List.append_assoc]; rfl
  · rintro σ G ⟨st, don, v3, v4, rfl, sg, dt, ds, hlv, hdr, hle, hdl⟩
    have hst : st = [] := by
      have h := stR_len st
      rw [← hdr, List.length_drop, rows_len, lx] at h
      exact List.length_eq_zero_iff.mp (by omega)
    subst hst
    rw [show stL [] = [] from rfl, List.append_nil] at hlv
    subst hlv
    walk_at "v"
    exact hQ sp G hsp0 sg ds

def prG (e : Gt × List Nat) : PyData := .tuple [(upT e.1).d, plD e.2]
def stG (st : List (Gt × List Nat)) : List PyData := (st.map prG).reverse
theorem stG_cons (e : Gt × List Nat) (st : List (Gt × List Nat)) : stG (e :: st) = stG st ++ [prG e] := by unfold stG; rw [List.map_cons, List.reverse_cons]
theorem stG_len (st : List (Gt × List Nat)) : (stG st).length = st.length := by unfold stG; rw [List.length_reverse, List.length_map]
def stN (st : List (Gt × List Nat)) : Nat := (st.map fun e => e.1.nodes).sum
theorem stN_cons (e : Gt × List Nat) (st : List (Gt × List Nat)) : stN (e :: st) = e.1.nodes + stN st := rfl
theorem stN_len : ∀ st : List (Gt × List Nat), st.length ≤ stN st
  | [] => Nat.zero_le _
  | e :: st => by have := stN_len st; have := nodes_pos e.1; rw [stN_cons, List.length_cons]; omega
theorem sc_places : GScope ["term", "waiting", "part", "place"] ["term"] (defScope s_places) := ⟨rfl, rfl, rfl, by decide +kernel, rfl, by decide +kernel, by decide +kernel⟩
theorem b_places {K : PySem.W.Frag} {fd : FuncData} (F : Fn_places K fd) : Binds K fd ["term"] [] := F.bindsN fun _ _ _ _ _ _ us hl => match us, hl with | [_], _ => rfl
def sp_places : SpG := fun vs H Q _ => ∃ (x : V) (g : Gt), vs = [x] ∧ TD H x (upT g).d ∧ g.nodes ≤ 1000 ∧ ∀ out H', Same H H' → TDs H' out ((plT g []).map plD) → Q out H'
theorem ok_places (T : Txt w K mg) {fd : FuncData} (F : Fn_places K fd) (hm : mg "places" = some (.ref (He.ga K "places"))) : CalGen P w K mg base 1 "places" sp_places := by
  refine calgen0 (k := 0) F hm sc_places (b_places F) (fun vs H Q E h => by obtain ⟨x, g, rfl, _⟩ := h; rfl) (fun cdv A outer s H vs Q E pn hr h => ?_)
  obtain ⟨x0, g, rfl, hx, hn, hQ⟩ := h
  refine ⟨_, (gss_cons (gs_ps (ps_set (i := 1) sc_places.nd rfl (Or.inl rfl) (pe_lst (pa_cons (pe_tup (pa_cons (pv 0) (pa_cons (pe_tup pa_nil) pa_nil))) pa_nil)))) (gss_cons (gs_while owns_gcx (pt_truth (pv 1) (by intro _; rfl))
    (gss_cons (gs_ps (ps_asg (pe_bm0 PySem.F.plainAttrs_list PySem.F.slot_list_pop PySem.F.type_list_pop mt_pop (pv 1)) (pg_tup (by rfl) (pgs_cons (pg_name (i := 2) sc_places.nd rfl (Or.inl rfl)) (pgs_cons (pg_name (i := 3) sc_places.nd rfl (Or.inl rfl)) pgs_nil))))) (gss_cons (gs_yield (pv 3)) (gss_cons (gs_ps (ps_if (pt_cmpR op_eq (pe_ix ix_tup (pv 2) pe_int (fun _ _ => rfl)) pe_str (nomark _))
    (pss_cons (ps_expr (pe_bm PySem.F.plainAttrs_list PySem.F.slot_list_append PySem.F.type_list_append mt_append (pv 1) (pa_cons (pe_tup (pa_cons (pe_ix ix_tup (pv 2) pe_int (fun _ _ => rfl)) (pa_cons (pe_op op_catA (pv 3) (pe_tup (pa_cons pe_int pa_nil))) pa_nil))) pa_nil)))
    (pss_one (ps_expr (pe_bm PySem.F.plainAttrs_list PySem.F.slot_list_append PySem.F.type_list_append mt_append (pv 1) (pa_cons (pe_tup (pa_cons (pe_ix ix_tup (pv 2) pe_int (fun _ _ => rfl)) (pa_cons (pe_op op_catA (pv 3) (pe_tup (pa_cons pe_int pa_nil))) pa_nil))) pa_nil)))))
    (pss_one (ps_if (pt_cmpR op_eq (pe_ix ix_tup (pv 2) pe_int (fun _ _ => rfl)) pe_str (nomark _))
    (pss_one (ps_expr (pe_bm PySem.F.plainAttrs_list PySem.F.slot_list_append PySem.F.type_list_append mt_append (pv 1) (pa_cons (pe_tup (pa_cons (pe_ix ix_tup (pv 2) pe_int (fun _ _ => rfl)) (pa_cons (pe_op op_catA (pv 3) (pe_tup (pa_cons pe_int pa_nil))) pa_nil))) pa_nil))))
    pss_nil)))) gss_nil)))) gss_nil)), ?_⟩
  rw [show start ["term", "waiting", "part", "place"] [x0] = [some x0, none, none, none] from rfl]
  have ec0 : Str.ofString "app" = S [97,112,112] := S_ofs (by decide +kernel)
  have ec1 : Str.ofString "lam" = S [108,97,109] := S_ofs (by decide +kernel)
  rw [ec0, ec1]
  dsimp only [tGThen, tPlain, tG0, GEnds.at, gcxOf, cxOf]
  walk_at "v"
  refine ev_lst (ds := stG [(g, [])]) (eva_cons (ev_tup (eva_cons (ev_var rfl hx) (eva_cons (ev_tup eva_nil) eva_nil))) eva_nil) (fun wl H1 hwl s1 d1 => ?_)
  walk_at "v"
  refine ⟨fun m ys σ H' => ∃ (st : List (Gt × List Nat)) (don : List (List Nat)) (v2 v3 : Option V), σ = [some x0, some (.ref wl), v2, v3] ∧ m = stN st ∧ Same H H' ∧ DL H' wl (stG st) ∧ TDs H' ys (don.map plD) ∧ don ++ stL st = plT g [] ∧ (∀ e ∈ st, e.2.length + e.1.nodes ≤ g.nodes) ∧ don.length + stN st ≤ g.nodes,
    ⟨stN [(g, [])], [(g, [])], [], _, _, rfl, rfl, s1, d1, .nil, by show [] ++ (plT g [] ++ []) = _; rw [List.append_nil]; rfl, fun e he => by rw [List.mem_singleton.mp he]; exact Nat.le_of_eq (Nat.zero_add _), by show 0 + (g.nodes + 0) ≤ _; omega⟩, ?_⟩
  rintro m ys σ G ⟨st, don, v2, v3, rfl, rfl, sg, dt, ty, hlv, hle, hsz⟩
  walk_at "v"
  refine l_truth dt ?_
  cases st with
  | nil =>
    rw [decide_eq_false (by unfold stG; simp), if_neg Bool.false_ne_true]
    rw [show stL [] = [] from rfl, List.append_nil] at hlv
    subst hlv
    exact hQ ys G sg ty
  | cons e st =>
    obtain ⟨s', q⟩ := e
    have hsl := stN_len st
    have hz : q.length + s'.nodes ≤ g.nodes := hle (s', q) List.mem_cons_self
    have hle' : ∀ e ∈ st, e.2.length + e.1.nodes ≤ g.nodes := fun e he => hle e (List.mem_cons_of_mem _ he)
    have hsz : don.length + (s'.nodes + stN st) ≤ g.nodes := hsz
    have hnp := nodes_pos s'
    rw [decide_eq_true (by rw [stG_cons]; simp), if_pos rfl]
    refine ⟨fun ys' σ' H' => ∃ m', m' < stN ((s', q) :: st) ∧ ∃ (st : List (Gt × List Nat)) (don : List (List Nat)) (v2 v3 : Option V), σ' = [some x0, some (.ref wl), v2, v3] ∧ m' = stN st ∧ Same H H' ∧ DL H' wl (stG st) ∧ TDs H' ys' (don.map plD) ∧ don ++ stL st = plT g [] ∧ (∀ e ∈ st, e.2.length + e.1.nodes ≤ g.nodes) ∧ don.length + stN st ≤ g.nodes, fun _ _ _ h => h, ?_⟩
    rw [stG_cons] at dt
    dsimp only [tGThen, tPlain, tG0, GEnds.at, tGYield, gcxOf, cxOf]
    walk_at "v"
    refine l_ty dt ?_
    walk_at "v"
    refine l_pop dt (fun y1 H4 ty1 d4 x4 => ?_)
    obtain ⟨_, dtl⟩ := dt.lst
    have tm4 := Tm.ex dtl x4
    have s4 := sg.ex hwl x4
    obtain ⟨xa, xs, rfl, hxa, txs⟩ := ty1.tuple
    obtain ⟨ya, yp, rfl, ta, tp⟩ := txs.two
    refine w_un2 rfl hxa ?_
    walk_at "v"
    have ty4 := ty.tm tm4
    have lys : ys.length = don.length := by rw [ty.len, List.length_map]
    refine ⟨by rw [lys, sizeLine_eq]; omega, ?_⟩
    walk_at "v"
    have ty5 : TDs H4 (ys ++ [yp]) ((don ++ [q]).map plD) := by rw [List.map_append]; exact ty4.snoc tp
    cases s' with
    | app f a =>
      have ta : TD H4 ya (.tuple [.str (S wAPP), (upT f).d, (upT a).d]) := ta
      have hz : q.length + (f.nodes + a.nodes + 1) ≤ g.nodes := hz
      have hsz : don.length + (f.nodes + a.nodes + 1 + stN st) ≤ g.nodes := hsz
      refine t_ixS (n := 0) ta rfl ?_
      walk_at "v"
      rw [show decide (wAPP = [97, 112, 112]) = true from by decide]
      walk_at "v"
      refine l_ty d4 ?_
      walk_at "v"
      refine w_tupN ?_
      walk_at "v"
      refine t_ix (n := 2) ta rfl (fun z1 tz1 => ?_)
      walk_at "v"
      refine w_tupN ?_
      walk_at "v"
      refine t_new (ds := [.int (1 : Nat)]) (.cons (.int _) .nil) (fun z2 G2 hz2 s2' tz2 => ?_)
      walk_at "v"
      refine t_catA (tp.tm (Tm.same s2')) tz2 (fun z3 G3 s3' tz3 => ?_) (by rw [List.length_map]; show q.length + 1 ≤ 100000; omega)
      walk_at "v"
      have tz3 : TD G3 z3 (plD (q ++ [1])) := by rw [plD_snoc]; exact tz3
      have s23 := s2'.tr s3'
      refine t_new (ds := [(upT a).d, plD (q ++ [1])]) (.cons (tz1.tm (Tm.same s23)) (.cons tz3 .nil)) (fun z4 G4 hz4 s4' tz4 => ?_)
      walk_at "v"
      have s24 := s23.tr s4'
      refine l_app (d := prG (a, q ++ [1])) (d4.same s24) tz4 (fun G5 d5 x5 => ?_) (by rw [stG_len]; omega)
      walk_at "v"
      obtain ⟨_, dl5⟩ := (d4.same s24).lst
      have tm5 := (Tm.same s24).tr (Tm.ex dl5 x5)
      have s5 := (s4.tr s24).ex hwl x5
      refine l_ty d5 ?_
      walk_at "v"
      refine w_tupN ?_
      walk_at "v"
      refine t_ix (n := 1) (ta.tm tm5) rfl (fun w1 tw1 => ?_)
      walk_at "v"
      refine w_tupN ?_
      walk_at "v"
      refine t_new (ds := [.int (0 : Nat)]) (.cons (.int _) .nil) (fun w2 K2 hw2 r2' tw2 => ?_)
      walk_at "v"
      refine t_catA ((tp.tm tm5).tm (Tm.same r2')) tw2 (fun w3 K3 r3' tw3 => ?_) (by rw [List.length_map]; show q.length + 1 ≤ 100000; omega)
      walk_at "v"
      have tw3 : TD K3 w3 (plD (q ++ [0])) := by rw [plD_snoc]; exact tw3
      have r23 := r2'.tr r3'
      refine t_new (ds := [(upT f).d, plD (q ++ [0])]) (.cons (tw1.tm (Tm.same r23)) (.cons tw3 .nil)) (fun w4 K4 hw4 r4' tw4 => ?_)
      walk_at "v"
      have r24 := r23.tr r4'
      refine l_app (d := prG (f, q ++ [0])) (d5.same r24) tw4 (fun K5 e5 y5 => ?_) (by rw [List.length_append, stG_len]; show st.length + 1 ≤ 100000; omega)
      walk_at "v"
      obtain ⟨_, dl6⟩ := (d5.same r24).lst
      have tm6 := tm5.tr ((Tm.same r24).tr (Tm.ex dl6 y5))
      refine ⟨_, ?_, (f, q ++ [0]) :: (a, q ++ [1]) :: st, don ++ [q], _, _, rfl, rfl, (s5.tr r24).ex hwl y5, by rw [stG_cons, stG_cons]; exact e5, ty5.tm tm6, ?_, fun e he => ?_, ?_⟩
      · rw [stN_cons, stN_cons, stN_cons]; show f.nodes + (a.nodes + stN st) < f.nodes + a.nodes + 1 + stN st; omega
      · rw [← hlv, stL_cons, stL_cons, stL_cons, List.append_assoc]
        show don ++ ([q] ++ (plT f _ ++ (plT a _ ++ stL st))) = don ++ (q :: (plT f _ ++ plT a _) ++ stL st)
        simp only [List.cons_append, List.nil_append, List.append_assoc]
      · rcases List.mem_cons.mp he with rfl | he
        · show (q ++ [0]).length + f.nodes ≤ _
          rw [List.length_append]; show q.length + 1 + f.nodes ≤ _; omega
        rcases List.mem_cons.mp he with rfl | he
        · show (q ++ [1]).length + a.nodes ≤ _
          rw [List.length_append]; show q.length + 1 + a.nodes ≤ _; omega
        · exact hle' e he
      · rw [List.length_append, stN_cons, stN_cons]; show don.length + 1 + (f.nodes + (a.nodes + stN st)) ≤ _; omega
    | lam j b =>
      have ta : TD H4 ya (.tuple [.str (S wLAM), j.d, (upT b).d]) := ta
      have hz : q.length + (b.nodes + 1) ≤ g.nodes := hz
      have hsz : don.length + (b.nodes + 1 + stN st) ≤ g.nodes := hsz
      refine t_ixS (n := 0) ta rfl ?_
      walk_at "v"
      rw [show decide (wLAM = [97, 112, 112]) = false from by decide]
      walk_at "v"
      refine t_ixS (n := 0) ta rfl ?_
      walk_at "v"
      rw [show decide (wLAM = [108, 97, 109]) = true from by decide]
      walk_at "v"
      refine l_ty d4 ?_
      walk_at "v"
      refine w_tupN ?_
      walk_at "v"
      refine t_ix (n := 2) ta rfl (fun z1 tz1 => ?_)
      walk_at "v"
      refine w_tupN ?_
      walk_at "v"
      refine t_new (ds := [.int (0 : Nat)]) (.cons (.int _) .nil) (fun z2 G2 hz2 s2' tz2 => ?_)
      walk_at "v"
      refine t_catA (tp.tm (Tm.same s2')) tz2 (fun z3 G3 s3' tz3 => ?_) (by rw [List.length_map]; show q.length + 1 ≤ 100000; omega)
      walk_at "v"
      have tz3 : TD G3 z3 (plD (q ++ [0])) := by rw [plD_snoc]; exact tz3
      have s23 := s2'.tr s3'
      refine t_new (ds := [(upT b).d, plD (q ++ [0])]) (.cons (tz1.tm (Tm.same s23)) (.cons tz3 .nil)) (fun z4 G4 hz4 s4' tz4 => ?_)
      walk_at "v"
      have s24 := s23.tr s4'
      refine l_app (d := prG (b, q ++ [0])) (d4.same s24) tz4 (fun G5 d5 x5 => ?_) (by rw [stG_len]; omega)
      walk_at "v"
      obtain ⟨_, dl5⟩ := (d4.same s24).lst
      have tm5 := (Tm.same s24).tr (Tm.ex dl5 x5)
      refine ⟨_, ?_, (b, q ++ [0]) :: st, don ++ [q], _, _, rfl, rfl, (s4.tr s24).ex hwl x5, by rw [stG_cons]; exact d5, ty5.tm tm5, ?_, fun e he => ?_, ?_⟩
      · rw [stN_cons, stN_cons]; show b.nodes + stN st < b.nodes + 1 + stN st; omega
      · rw [← hlv, stL_cons, stL_cons, List.append_assoc]; rfl
      · rcases List.mem_cons.mp he with rfl | he
        · show (q ++ [0]).length + b.nodes ≤ _
          rw [List.length_append]; show q.length + 1 + b.nodes ≤ _; omega
        · exact hle' e he
      · rw [List.length_append, stN_cons]; show don.length + 1 + (b.nodes + stN st) ≤ _; omega
    | tip y =>
      obtain ⟨rest, ed⟩ := gw_d (.tip y)
      have m12 := gw_tip y
      have ta' : TD H4 ya (.tuple (.str (S (gw (.tip y))) :: rest)) := by rw [← ed]; exact ta
      refine t_ixS (n := 0) ta' rfl ?_
      walk_at "v"
      rw [show decide (gw (.tip y) = [97, 112, 112]) = false from decide_eq_false m12.1]
      walk_at "v"
      refine t_ixS (n := 0) ta' rfl ?_
      walk_at "v"
      rw [show decide (gw (.tip y) = [108, 97, 109]) = false from decide_eq_false m12.2]
      walk_at "v"
      refine ⟨_, ?_, st, don ++ [q], _, _, rfl, rfl, s4, d4, ty5, ?_, hle', ?_⟩
      · rw [stN_cons]; show _ < 1 + stN st; omega
      · rw [← hlv, stL_cons, List.append_assoc]; rfl
      · have hsz : don.length + (1 + stN st) ≤ g.nodes := hsz
        rw [List.length_append]; show don.length + 1 + stN st ≤ _; omega
end
end K03

namespace K03
open PySem PySem.Spec PyProof.Rows L2 SX K02 K01
local macro_rules | `(tactic| walk_at "w1") => `(tactic| (first
  | with_reducible refine w_seq ?_ | with_reducible refine w_asgN ?_ | with_reducible refine w_c ?_
  | ((with_reducible refine' w_var ?wv ?_); (case wv => exact rfl))
  | with_reducible refine w_op ?_ | with_reducible refine w_un ?_ | with_reducible refine w_next ?_ | with_reducible refine w_brk ?_ | with_reducible refine w_cnt ?_
  | with_reducible refine w_ifS ?_ | with_reducible refine w_if ?_ | with_reducible refine w_test ?_ | with_reducible refine w_tB ?_ | with_reducible refine w_bl ?_ | with_reducible refine w_blI ?_
  | with_reducible refine w_and ?_ | with_reducible refine w_or ?_ | with_reducible refine w_not ?_ | with_reducible refine w_andV ?_ | with_reducible refine w_orV ?_ | with_reducible refine w_notV ?_
  | with_reducible refine w_nil ?_ | with_reducible refine w_cons ?_ | with_reducible refine w_cb ?_ | with_reducible refine w_call ?_ | with_reducible refine w_callS ?_ | with_reducible refine w_chain ?_
  | with_reducible refine w_tupN ?_ | with_reducible refine w_lstN ?_ | with_reducible refine w_sl ?_ | with_reducible refine w_noPart ?_ | with_reducible refine w_part ?_ | with_reducible refine w_partI ?_
  | with_reducible refine w_ret ?_ | with_reducible refine w_retN ?_ | with_reducible refine w_drop ?_ | with_reducible refine w_asg ?_ | with_reducible refine w_gSub ?_
  | ((with_reducible refine' w_aug ?wv ?_); (case wv => exact rfl)) | with_reducible refine w_ipI ?_
  | with_reducible refine w_addI ?_ | with_reducible refine w_subI ?_ | with_reducible refine w_ltI ?_ | with_reducible refine w_leI ?_ | with_reducible refine w_gtI ?_ | with_reducible refine w_geI ?_
  | with_reducible refine w_eqI ?_ | with_reducible refine w_neI ?_ | with_reducible refine w_eqT ?_ | with_reducible refine w_neT ?_ | with_reducible refine w_inS ?_ | with_reducible refine w_ninS ?_
  | with_reducible refine w_absI ?_ | with_reducible refine w_intI ?_ | with_reducible refine w_maxI ?_ | with_reducible refine w_minI ?_
  | with_reducible refine w_for ?_ | with_reducible refine w_iR1 ?_ | with_reducible refine w_iR2 ?_ | with_reducible refine w_iStr ?_ | with_reducible refine w_strI ?_ | with_reducible refine w_iList ?_ | with_reducible refine w_iTup ?_
  | with_reducible refine w_bm ?_ | with_reducible refine w_bm0 ?_ | with_reducible refine w_t ?_ | with_reducible refine w_f ?_ | with_reducible refine w_nt ?_ | with_reducible refine w_nx ?_ | with_reducible refine w_rt ?_ | with_reducible refine w_bk ?_ | with_reducible refine w_ct ?_ | with_reducible refine w_nf ?_ | with_reducible refine w_lc ?_ | with_reducible refine w_yes ?_ | with_reducible refine w_neg ?_ | with_reducible refine w_intB ?_ | with_reducible refine w_fld ?_ | with_reducible refine w_setf ?_ | with_reducible refine w_faug ?_ | with_reducible refine w_meth ?_ | with_reducible refine w_bmS ?_ | with_reducible refine w_start ?_ | with_reducible refine w_revL ?_ | with_reducible refine w_iR3 ?_))
local macro_rules | `(tactic| walk_at "w") => `(tactic| (repeat (first | walk_at "w1" | dsimp (config := { proj := false }) only [List.set_cons_zero, List.set_cons_succ])))
section
variable {w : World} [Lit] {mg : Str → Option Value} {base : Heap}
local macro_rules | `(tactic| walk_at "v1") => `(tactic| (first
  | with_reducible refine w_seq ?_ | with_reducible refine w_asgN ?_ | with_reducible refine w_c ?_
  | ((with_reducible refine' w_var ?wv ?_); (case wv => exact rfl))
  | with_reducible refine w_op ?_ | with_reducible refine w_un ?_ | with_reducible refine w_next ?_ | with_reducible refine w_brk ?_ | with_reducible refine w_cnt ?_
  | with_reducible refine w_ifS ?_ | with_reducible refine w_if ?_ | with_reducible refine w_test ?_ | with_reducible refine w_tB ?_ | with_reducible refine w_bl ?_ | with_reducible refine w_blI ?_
  | with_reducible refine w_and ?_ | with_reducible refine w_or ?_ | with_reducible refine w_not ?_ | with_reducible refine w_andV ?_ | with_reducible refine w_orV ?_ | with_reducible refine w_notV ?_
  | with_reducible refine w_nil ?_ | with_reducible refine w_cons ?_ | with_reducible refine w_cb ?_ | with_reducible refine w_call ?_ | with_reducible refine w_callS ?_ | with_reducible refine w_chain ?_
  | with_reducible refine w_sl ?_ | with_reducible refine w_noPart ?_ | with_reducible refine w_part ?_ | with_reducible refine w_partI ?_
  | with_reducible refine w_ret ?_ | with_reducible refine w_retN ?_ | with_reducible refine w_drop ?_ | with_reducible refine w_asg ?_ | with_reducible refine w_gSub ?_
  | ((with_reducible refine' w_aug ?wv ?_); (case wv => exact rfl)) | with_reducible refine w_ipI ?_
  | with_reducible refine w_addI ?_ | with_reducible refine w_subI ?_ | with_reducible refine w_ltI ?_ | with_reducible refine w_leI ?_ | with_reducible refine w_gtI ?_ | with_reducible refine w_geI ?_
  | with_reducible refine w_eqI ?_ | with_reducible refine w_neI ?_ | with_reducible refine w_eqT ?_ | with_reducible refine w_neT ?_ | with_reducible refine w_inS ?_ | with_reducible refine w_ninS ?_
  | with_reducible refine w_absI ?_ | with_reducible refine w_intI ?_ | with_reducible refine w_maxI ?_ | with_reducible refine w_minI ?_
  | with_reducible refine w_for ?_ | with_reducible refine w_iR1 ?_ | with_reducible refine w_iR2 ?_ | with_reducible refine w_iStr ?_ | with_reducible refine w_strI ?_ | with_reducible refine w_iList ?_ | with_reducible refine w_iTup ?_
  | with_reducible refine w_bm ?_ | with_reducible refine w_bm0 ?_ | with_reducible refine w_t ?_ | with_reducible refine w_f ?_ | with_reducible refine w_nt ?_ | with_reducible refine w_nx ?_ | with_reducible refine w_rt ?_ | with_reducible refine w_bk ?_ | with_reducible refine w_ct ?_ | with_reducible refine w_nf ?_ | with_reducible refine w_lc ?_ | with_reducible refine w_yes ?_ | with_reducible refine w_neg ?_ | with_reducible refine w_intB ?_ | with_reducible refine w_fld ?_ | with_reducible refine w_setf ?_ | with_reducible refine w_faug ?_ | with_reducible refine w_meth ?_ | with_reducible refine w_bmS ?_ | with_reducible refine w_start ?_ | with_reducible refine w_revL ?_ | with_reducible refine w_iR3 ?_))
local macro_rules | `(tactic| walk_at "v") => `(tactic| (repeat (first | walk_at "v1" | dsimp (config := { proj := false }) only [List.set_cons_zero, List.set_cons_succ])))
local macro_rules | `(tactic| walk_at "d") => `(tactic| (repeat (first | exact eva_nil | refine eva_cons ?_ ?_ | exact ev_str | exact ev_int | exact ev_neg | refine ev_tup ?_ | exact ev_var rfl (.str _) | exact ev_var rfl (.int _) | (refine ev_var rfl ?_; assumption))))


theorem subs_all {P : Gt → Prop} (hf : ∀ f a, P (.app f a) → P f ∧ P a) (hl : ∀ k b, P (.lam k b) → P b) : ∀ t : Gt, P t → ∀ s ∈ subs t, P s
  | .app f a, h, s, hs => by
    rcases List.mem_cons.mp hs with rfl | hs
    · exact h
    rcases List.mem_append.mp hs with hs | hs
    · exact subs_all hf hl f (hf f a h).1 s hs
    · exact subs_all hf hl a (hf f a h).2 s hs
  | .lam k b, h, s, hs => by
    rcases List.mem_cons.mp hs with rfl | hs
    · exact h
    · exact subs_all hf hl b (hl k b h) s hs
  | .tip x, h, s, hs => by
    rw [List.mem_singleton.mp hs]; exact h
theorem subs_gok {t s : Gt} (h : t.gok) (m : s ∈ subs t) : s.gok := subs_all (P := Tr.gok) (fun _ _ h => h) (fun _ _ h => h.2) t h s m
theorem subs_smB {t s : Gt} (h : smB t) (m : s ∈ subs t) : smB s := subs_all (P := smB) (fun _ _ h => h) (fun _ _ h => h) t h s m
theorem subs_lg {t s : Gt} (h : lgT t) (m : s ∈ subs t) : lgT s := subs_all (P := lgT) (fun _ _ h => h) (fun _ _ h => h) t h s m
theorem subs_nodes {t s : Gt} (m : s ∈ subs t) : s.nodes ≤ t.nodes := by
  obtain ⟨i, hi, e⟩ := List.mem_iff_getElem.mp m
  have := sub_fits (t := t) (k := i) (s := s) (by rw [List.getElem?_eq_getElem hi, e])
  omega
theorem trs_shw {D : Nat} : ∀ {gs : List Gt}, (∀ g ∈ gs, g.gok ∧ smB g ∧ g.dep ≤ D) → PyData.leavesShortAll 13 (trs gs) = true ∧ PyData.showableAll (trs gs) = true ∧ PyData.weightAll (trs gs) ≤ 1501 * (gs.map Tr.nodes).sum ∧ PyData.eqvAll (trs gs) (trs gs) = true ∧ PyData.canLayAll0 (trs gs) = true ∧ PyData.depthAll (trs gs) ≤ D + 50
  | [], _ => ⟨rfl, rfl, Nat.le_refl _, rfl, rfl, Nat.zero_le _⟩
  | g :: gs, h => by
    obtain ⟨a, b, c, d, e, f⟩ := trs_shw (D := D) fun g hg => h g (List.mem_cons_of_mem _ hg)
    obtain ⟨h1, h2, h3⟩ := h g List.mem_cons_self
    obtain ⟨s1, s2, s3⟩ := tr_short h1 h2
    obtain ⟨l1, l2⟩ := tree_lay h1
    have hp := nodes_pos g
    refine ⟨?_, ?_, ?_, ?_, ?_, ?_⟩
    · show ((upT g).d.leavesShort 13 && PyData.leavesShortAll 13 (trs gs)) = true
      rw [s1, a]; rfl
    · show ((upT g).d.showable && PyData.showableAll (trs gs)) = true
      rw [s2, b]; rfl
    · show (upT g).d.weight + 1 + PyData.weightAll (trs gs) ≤ 1501 * (g.nodes + (gs.map Tr.nodes).sum)
      rw [Nat.mul_add]; omega
    · show (PyData.eqv (upT g).d (upT g).d && PyData.eqvAll (trs gs) (trs gs)) = true
      rw [eqv_self, d]; rfl
    · show ((upT g).d.canLay0 && PyData.canLayAll0 (trs gs)) = true
      rw [l1, e]; rfl
    · show max (upT g).d.depth (PyData.depthAll (trs gs)) ≤ D + 50
      omega
theorem shw_word {w : List Nat} {gs : List Gt} (hw : Cok w) (hl : w.length ≤ 16) (h : ∀ g ∈ gs, g.gok ∧ smB g ∧ g.dep ≤ 120) (hn : (gs.map Tr.nodes).sum ≤ 600) : Shw (.tuple (.str (S w) :: trs gs)) := by
  obtain ⟨a, b, c, d, e, f⟩ := trs_shw h
  have z0 : PyData.leavesShortAll 13 (.str (S w) :: trs gs) = true := by
    show ((PyData.str (S w)).leavesShort 13 && PyData.leavesShortAll 13 (trs gs)) = true
    rw [lvs hw, a]; rfl
  have z : (PyData.tuple (.str (S w) :: trs gs)).leavesShort 13 = true := by unfold PyData.leavesShort; exact z0
  have y := PyData.shown_le 13 (by decide) _ z
  have wt : (PyData.tuple (.str (S w) :: trs gs)).weight = w.length + 1 + PyData.weightAll (trs gs) := by
    have := wtS w
    simp only [PyData.weight, PyData.weightAll] at this ⊢
    omega
  refine ⟨⟨by simp only [PyData.canLay0, PyData.canLayAll0, strOk_S hw, e, Bool.and_self], by simp only [PyData.depth, PyData.depthAll]; omega⟩, by simp [PyData.eqv, PyData.eqvAll, d], by simp only [PyData.showable, PyData.showableAll, b, Bool.and_self], ?_⟩
  rw [wt] at y
  omega
theorem spT_sum : ∀ g : Gt, ((spT g).2.map Tr.nodes).sum + (spT g).1.nodes ≤ g.nodes
  | .app f a => by
    have := spT_sum f
    show (((spT f).2 ++ [a]).map Tr.nodes).sum + (spT f).1.nodes ≤ f.nodes + a.nodes + 1
    rw [List.map_append, List.sum_append]
    show _ + (a.nodes + 0) + _ ≤ _
    omega
  | .lam k b => by show 0 + (b.nodes + 1) ≤ b.nodes + 1; omega
  | .tip x => by show 0 + 1 ≤ 1; omega
theorem spT_all {P : Gt → Prop} (hf : ∀ f a, P (.app f a) → P f ∧ P a) : ∀ g : Gt, P g → P (spT g).1 ∧ ∀ a ∈ (spT g).2, P a
  | .app f a, h => by
    obtain ⟨h1, h2⟩ := spT_all hf f (hf f a h).1
    refine ⟨h1, fun x hx => ?_⟩
    rcases List.mem_append.mp hx with hx | hx
    · exact h2 x hx
    · rw [List.mem_singleton.mp hx]; exact (hf f a h).2
  | .lam k b, h => ⟨h, fun a ha => absurd ha List.not_mem_nil⟩
  | .tip x, h => ⟨h, fun a ha => absurd ha List.not_mem_nil⟩
def OkT (n : Nat) (g : Gt) : Prop := g.gok ∧ smB g ∧ g.dep ≤ n
theorem OkT.fa {n : Nat} (f a : Gt) (h : OkT n (.app f a)) : OkT n f ∧ OkT n a := by
  obtain ⟨h1, h2, h3⟩ := h
  have h3 : max f.dep a.dep + 1 ≤ n := h3
  exact ⟨⟨h1.1, h2.1, by omega⟩, ⟨h1.2, h2.2, by omega⟩⟩
theorem rd_word {w : List Nat} (h : w ∈ LOGIC) : Cok (rdW w) ∧ (rdW w).length ≤ 16 := by
  have : ∀ w ∈ LOGIC, (∀ c ∈ rdW w, c < 256) ∧ (rdW w).length ≤ 16 := by decide +kernel
  exact this w h
theorem shw_ot {g : Gt} (h : OkT 120 g) (n : g.nodes ≤ 600) : Shw (otT g) := shw_word (w := wOTHER) (gs := [g]) (by show ∀ c ∈ wOTHER, c < 256; decide) (by decide) (fun x hx => by rw [List.mem_singleton.mp hx]; exact h) (by show g.nodes + 0 ≤ 600; omega)
theorem shw_rd {g : Gt} (h : OkT 120 g) (n : g.nodes ≤ 600) : (∃ ds, rdT g = .tuple ds) ∧ Shw (rdT g) := by
  have ho := shw_ot h n
  have hs := spT_sum g
  have ha := (spT_all OkT.fa g h).2
  unfold rdT
  generalize (spT g).1 = hd at *
  generalize (spT g).2 = as at *
  cases hd with
  | app f a => exact ⟨⟨_, rfl⟩, ho⟩
  | lam j b => exact ⟨⟨_, rfl⟩, ho⟩
  | tip x =>
    cases x with
    | var w k => exact ⟨⟨_, rfl⟩, ho⟩
    | bnd i => exact ⟨⟨_, rfl⟩, ho⟩
    | cst w k =>
      show (∃ ds, (if w ∈ LOGIC ∧ as.length = rdN w then _ else _) = _) ∧ Shw (if w ∈ LOGIC ∧ as.length = rdN w then _ else _)
      by_cases z : w ∈ LOGIC ∧ as.length = rdN w
      · rw [if_pos z]
        obtain ⟨r1, r2⟩ := rd_word z.1
        exact ⟨⟨_, rfl⟩, shw_word r1 r2 ha (by omega)⟩
      · rw [if_neg z]
        exact ⟨⟨_, rfl⟩, ho⟩
theorem shw_sp {g : Gt} (h : OkT 120 g) (n : g.nodes ≤ 600) : Shw (spD g) := by
  have hs := spT_sum g
  obtain ⟨hh, ha⟩ := spT_all OkT.fa g h
  unfold spD
  generalize (spT g).1 = hd at *
  generalize (spT g).2 = as at *
  obtain ⟨a, b, c, d, e, f⟩ := trs_shw ha
  obtain ⟨s1, s2, s3⟩ := tr_short hh.1 hh.2.1
  obtain ⟨l1, l2⟩ := tree_lay hh.1
  have hdp := hh.2.2
  have z : (PyData.tuple [(upT hd).d, .tuple (trs as)]).leavesShort 13 = true := ls2 _ _ s1 (by simp only [PyData.leavesShort]; exact a)
  have y := PyData.shown_le 13 (by decide) _ z
  have wt : (PyData.tuple [(upT hd).d, .tuple (trs as)]).weight = (upT hd).d.weight + 1 + (PyData.weightAll (trs as) + 1 + 0) := by
    rw [wt2]
    simp only [PyData.weight]
  refine ⟨⟨by simp only [PyData.canLay0, PyData.canLayAll0, l1, e, Bool.and_self], by simp only [PyData.depth, PyData.depthAll]; omega⟩, by simp [PyData.eqv, PyData.eqvAll, eqv_self, d], sh2 _ _ s2 (by simp only [PyData.showable]; exact b), ?_⟩
  rw [wt] at y
  have : 1500 * hd.nodes + 1501 * (as.map Tr.nodes).sum ≤ 1501 * 600 := by
    have h1 : 1500 * hd.nodes ≤ 1501 * hd.nodes := Nat.mul_le_mul_right _ (by omega)
    have h2 : 1501 * ((as.map Tr.nodes).sum + hd.nodes) ≤ 1501 * 600 := Nat.mul_le_mul_left _ (by omega)
    rw [Nat.mul_add] at h2
    omega
  omega
/-! places -/
theorem ints_shw : ∀ {p : List Nat}, (∀ n ∈ p, n ≤ 1) → PyData.leavesShortAll 13 (p.map fun (n : Nat) => PyData.int (n : Int)) = true ∧ PyData.showableAll (p.map fun (n : Nat) => PyData.int (n : Int)) = true ∧ PyData.weightAll (p.map fun (n : Nat) => PyData.int (n : Int)) ≤ 101 * p.length ∧
    PyData.eqvAll (p.map fun (n : Nat) => PyData.int (n : Int)) (p.map fun (n : Nat) => PyData.int (n : Int)) = true ∧ PyData.canLayAll0 (p.map fun (n : Nat) => PyData.int (n : Int)) = true ∧ PyData.depthAll (p.map fun (n : Nat) => PyData.int (n : Int)) ≤ 1
  | [], _ => ⟨rfl, rfl, Nat.le_refl _, rfl, rfl, Nat.zero_le _⟩
  | n :: p, h => by
    obtain ⟨a, b, c, d, e, f⟩ := ints_shw fun m hm => h m (List.mem_cons_of_mem _ hm)
    have hn := h n List.mem_cons_self
    obtain ⟨i1, i2, i3⟩ := lvI (i := n) (by omega)
    refine ⟨?_, ?_, ?_, ?_, ?_, ?_⟩
    · show ((PyData.int (n : Int)).leavesShort 13 && _) = true
      rw [i1, a]; rfl
    · show ((PyData.int (n : Int)).showable && _) = true
      rw [i2, b]; rfl
    · show (PyData.int (n : Int)).weight + 1 + _ ≤ 101 * (p.length + 1)
      omega
    · show (PyData.eqv (PyData.int (n : Int)) (PyData.int (n : Int)) && _) = true
      rw [d]; simp [PyData.eqv]
    · show ((PyData.int (n : Int)).canLay0 && _) = true
      rw [e]; simp [PyData.canLay0]
    · show max (PyData.int (n : Int)).depth _ ≤ 1
      have : (PyData.int (n : Int)).depth ≤ 1 := by simp [PyData.depth]
      omega
theorem pls_shw {D : Nat} : ∀ {ps : List (List Nat)}, (∀ p ∈ ps, p.length ≤ D ∧ ∀ n ∈ p, n ≤ 1) → PyData.leavesShortAll 13 (ps.map plD) = true ∧ PyData.showableAll (ps.map plD) = true ∧ PyData.weightAll (ps.map plD) ≤ (101 * D + 1) * ps.length ∧
    PyData.eqvAll (ps.map plD) (ps.map plD) = true ∧ PyData.canLayAll0 (ps.map plD) = true ∧ PyData.depthAll (ps.map plD) ≤ 2
  | [], _ => ⟨rfl, rfl, Nat.le_refl _, rfl, rfl, Nat.zero_le _⟩
  | p :: ps, h => by
    obtain ⟨a, b, c, d, e, f⟩ := pls_shw fun m hm => h m (List.mem_cons_of_mem _ hm)
    obtain ⟨h1, h2⟩ := h p List.mem_cons_self
    obtain ⟨a', b', c', d', e', f'⟩ := ints_shw h2
    have c2 : 101 * p.length ≤ 101 * D := Nat.mul_le_mul_left _ h1
    refine ⟨?_, ?_, ?_, ?_, ?_, ?_⟩
    · show ((plD p).leavesShort 13 && _) = true
      rw [a, show (plD p).leavesShort 13 = true from by unfold plD; simp only [PyData.leavesShort]; exact a']; rfl
    · show ((plD p).showable && _) = true
      rw [b, show (plD p).showable = true from by unfold plD; simp only [PyData.showable]; exact b']; rfl
    · show (plD p).weight + 1 + _ ≤ (101 * D + 1) * (ps.length + 1)
      have : (plD p).weight = PyData.weightAll (p.map fun (n : Nat) => PyData.int (n : Int)) := by unfold plD; simp only [PyData.weight]
      rw [Nat.mul_succ]; omega
    · show (PyData.eqv (plD p) (plD p) && _) = true
      rw [d, show PyData.eqv (plD p) (plD p) = true from by unfold plD; simp only [PyData.eqv]; exact d']; rfl
    · show ((plD p).canLay0 && _) = true
      rw [e, show (plD p).canLay0 = true from by unfold plD; simp only [PyData.canLay0]; exact e']; rfl
    · show max (plD p).depth _ ≤ 2
      have : (plD p).depth ≤ 2 := by unfold plD; simp only [PyData.depth]; omega
      omega
theorem shw_places {t : Gt} (n : t.nodes ≤ 100) : Shw (.tuple ((plT t []).map plD)) := by
  have hp : ∀ p ∈ plT t [], p.length ≤ 100 ∧ ∀ n ∈ p, n ≤ 1 := fun p hp => by
    obtain ⟨i, hi, e⟩ := List.mem_iff_getElem.mp hp
    have h1 : (plT t [])[i]? = some p := by rw [List.getElem?_eq_getElem hi, e]
    rw [plT_len] at hi
    obtain ⟨s, hs⟩ := subs_at hi
    obtain ⟨r, e1, _, e3, e4⟩ := pl_at t [] h1 hs
    rw [List.nil_append] at e1
    subst e1
    exact ⟨by omega, e4⟩
  obtain ⟨a, b, c, d, e, f⟩ := pls_shw hp
  rw [plT_len] at c
  have z : (PyData.tuple ((plT t []).map plD)).leavesShort 13 = true := by simp only [PyData.leavesShort]; exact a
  have y := PyData.shown_le 13 (by decide) _ z
  have w : (PyData.tuple ((plT t []).map plD)).weight = PyData.weightAll ((plT t []).map plD) := by simp only [PyData.weight]
  have c2 : (101 * 100 + 1) * t.nodes ≤ (101 * 100 + 1) * 100 := Nat.mul_le_mul_left _ n
  refine ⟨⟨by simp only [PyData.canLay0]; exact e, by simp only [PyData.depth]; omega⟩, by simp only [PyData.eqv]; exact d, by simp only [PyData.showable]; exact b, ?_⟩
  rw [w] at y
  omega
theorem shw_T {r : Gt} (h : OkT 130 r) (n : r.nodes ≤ 700) : Shw (upT r).d := ⟨sz_tree h.1 h.2.2, eqv_self r, (tr_short h.1 h.2.1).2.1, tr_shown h.1 h.2.1 n⟩
theorem same_T {H : Hp} {Q : VK} {E : XK} {x y : V} {r : Gt} (hx : TD H x (upT r).d) (hy : TD H y (upT r).d) (s : Shw (upT r).d) (k : Q (.bl true) H) : sp_law_same [x, y] H Q E := by
  obtain ⟨ds, e⟩ : ∃ ds, (upT r).d = .tuple ds := by
    cases r with
    | app f a => exact ⟨_, rfl⟩
    | lam k b => exact ⟨_, rfl⟩
    | tip l => cases l <;> exact ⟨_, rfl⟩
  rw [e] at hx hy s
  exact ⟨x, y, rfl, ds, hx, hy, s, k⟩
theorem OkT.mono {m n : Nat} {g : Gt} (h : OkT m g) (z : m ≤ n) : OkT n g := ⟨h.1, h.2.1, Nat.le_trans h.2.2 z⟩
theorem OkT.sub {n : Nat} {t s : Gt} (h : OkT n t) (hn : t.nodes ≤ n) (m : s ∈ subs t) : OkT n s := ⟨subs_gok h.1 m, subs_smB h.2.1 m, Nat.le_trans (dep_nodes s) (Nat.le_trans (subs_nodes m) hn)⟩
end
end K03

namespace K03
open PySem PySem.Spec PyProof.Rows L2 SX K02 K01
local macro_rules | `(tactic| walk_at "w1") => `(tactic| (first
  | with_reducible refine w_seq ?_ | with_reducible refine w_asgN ?_ | with_reducible refine w_c ?_
  | ((with_reducible refine' w_var ?wv ?_); (case wv => exact rfl))
  | with_reducible refine w_op ?_ | with_reducible refine w_un ?_ | with_reducible refine w_next ?_ | with_reducible refine w_brk ?_ | with_reducible refine w_cnt ?_
  | with_reducible refine w_ifS ?_ | with_reducible refine w_if ?_ | with_reducible refine w_test ?_ | with_reducible refine w_tB ?_ | with_reducible refine w_bl ?_ | with_reducible refine w_blI ?_
  | with_reducible refine w_and ?_ | with_reducible refine w_or ?_ | with_reducible refine w_not ?_ | with_reducible refine w_andV ?_ | with_reducible refine w_orV ?_ | with_reducible refine w_notV ?_
  | with_reducible refine w_nil ?_ | with_reducible refine w_cons ?_ | with_reducible refine w_cb ?_ | with_reducible refine w_call ?_ | with_reducible refine w_callS ?_ | with_reducible refine w_chain ?_
  | with_reducible refine w_tupN ?_ | with_reducible refine w_lstN ?_ | with_reducible refine w_sl ?_ | with_reducible refine w_noPart ?_ | with_reducible refine w_part ?_ | with_reducible refine w_partI ?_
  | with_reducible refine w_ret ?_ | with_reducible refine w_retN ?_ | with_reducible refine w_drop ?_ | with_reducible refine w_asg ?_ | with_reducible refine w_gSub ?_
  | ((with_reducible refine' w_aug ?wv ?_); (case wv => exact rfl)) | with_reducible refine w_ipI ?_
  | with_reducible refine w_addI ?_ | with_reducible refine w_subI ?_ | with_reducible refine w_ltI ?_ | with_reducible refine w_leI ?_ | with_reducible refine w_gtI ?_ | with_reducible refine w_geI ?_
  | with_reducible refine w_eqI ?_ | with_reducible refine w_neI ?_ | with_reducible refine w_eqT ?_ | with_reducible refine w_neT ?_ | with_reducible refine w_inS ?_ | with_reducible refine w_ninS ?_
  | with_reducible refine w_absI ?_ | with_reducible refine w_intI ?_ | with_reducible refine w_maxI ?_ | with_reducible refine w_minI ?_
  | with_reducible refine w_for ?_ | with_reducible refine w_iR1 ?_ | with_reducible refine w_iR2 ?_ | with_reducible refine w_iStr ?_ | with_reducible refine w_strI ?_ | with_reducible refine w_iList ?_ | with_reducible refine w_iTup ?_
  | with_reducible refine w_bm ?_ | with_reducible refine w_bm0 ?_ | with_reducible refine w_t ?_ | with_reducible refine w_f ?_ | with_reducible refine w_nt ?_ | with_reducible refine w_nx ?_ | with_reducible refine w_rt ?_ | with_reducible refine w_bk ?_ | with_reducible refine w_ct ?_ | with_reducible refine w_nf ?_ | with_reducible refine w_lc ?_ | with_reducible refine w_yes ?_ | with_reducible refine w_neg ?_ | with_reducible refine w_intB ?_ | with_reducible refine w_fld ?_ | with_reducible refine w_setf ?_ | with_reducible refine w_faug ?_ | with_reducible refine w_meth ?_ | with_reducible refine w_bmS ?_ | with_reducible refine w_start ?_ | with_reducible refine w_revL ?_ | with_reducible refine w_iR3 ?_))
local macro_rules | `(tactic| walk_at "w") => `(tactic| (repeat (first | walk_at "w1" | dsimp (config := { proj := false }) only [List.set_cons_zero, List.set_cons_succ])))
section
variable {w : World} [Lit] {mg : Str → Option Value} {base : Heap}
local macro_rules | `(tactic| walk_at "v1") => `(tactic| (first
  | with_reducible refine w_seq ?_ | with_reducible refine w_asgN ?_ | with_reducible refine w_c ?_
  | ((with_reducible refine' w_var ?wv ?_); (case wv => exact rfl))
  | with_reducible refine w_op ?_ | with_reducible refine w_un ?_ | with_reducible refine w_next ?_ | with_reducible refine w_brk ?_ | with_reducible refine w_cnt ?_
  | with_reducible refine w_ifS ?_ | with_reducible refine w_if ?_ | with_reducible refine w_test ?_ | with_reducible refine w_tB ?_ | with_reducible refine w_bl ?_ | with_reducible refine w_blI ?_
  | with_reducible refine w_and ?_ | with_reducible refine w_or ?_ | with_reducible refine w_not ?_ | with_reducible refine w_andV ?_ | with_reducible refine w_orV ?_ | with_reducible refine w_notV ?_
  | with_reducible refine w_nil ?_ | with_reducible refine w_cons ?_ | with_reducible refine w_cb ?_ | with_reducible refine w_call ?_ | with_reducible refine w_callS ?_ | with_reducible refine w_chain ?_
  | with_reducible refine w_sl ?_ | with_reducible refine w_noPart ?_ | with_reducible refine w_part ?_ | with_reducible refine w_partI ?_
  | with_reducible refine w_ret ?_ | with_reducible refine w_retN ?_ | with_reducible refine w_drop ?_ | with_reducible refine w_asg ?_ | with_reducible refine w_gSub ?_
  | ((with_reducible refine' w_aug ?wv ?_); (case wv => exact rfl)) | with_reducible refine w_ipI ?_
  | with_reducible refine w_addI ?_ | with_reducible refine w_subI ?_ | with_reducible refine w_ltI ?_ | with_reducible refine w_leI ?_ | with_reducible refine w_gtI ?_ | with_reducible refine w_geI ?_
  | with_reducible refine w_eqI ?_ | with_reducible refine w_neI ?_ | with_reducible refine w_eqT ?_ | with_reducible refine w_neT ?_ | with_reducible refine w_inS ?_ | with_reducible refine w_ninS ?_
  | with_reducible refine w_absI ?_ | with_reducible refine w_intI ?_ | with_reducible refine w_maxI ?_ | with_reducible refine w_minI ?_
  | with_reducible refine w_for ?_ | with_reducible refine w_iR1 ?_ | with_reducible refine w_iR2 ?_ | with_reducible refine w_iStr ?_ | with_reducible refine w_strI ?_ | with_reducible refine w_iList ?_ | with_reducible refine w_iTup ?_
  | with_reducible refine w_bm ?_ | with_reducible refine w_bm0 ?_ | with_reducible refine w_t ?_ | with_reducible refine w_f ?_ | with_reducible refine w_nt ?_ | with_reducible refine w_nx ?_ | with_reducible refine w_rt ?_ | with_reducible refine w_bk ?_ | with_reducible refine w_ct ?_ | with_reducible refine w_nf ?_ | with_reducible refine w_lc ?_ | with_reducible refine w_yes ?_ | with_reducible refine w_neg ?_ | with_reducible refine w_intB ?_ | with_reducible refine w_fld ?_ | with_reducible refine w_setf ?_ | with_reducible refine w_faug ?_ | with_reducible refine w_meth ?_ | with_reducible refine w_bmS ?_ | with_reducible refine w_start ?_ | with_reducible refine w_revL ?_ | with_reducible refine w_iR3 ?_))
local macro_rules | `(tactic| walk_at "v") => `(tactic| (repeat (first | walk_at "v1" | dsimp (config := { proj := false }) only [List.set_cons_zero, List.set_cons_succ])))
local macro_rules | `(tactic| walk_at "d") => `(tactic| (repeat (first | exact eva_nil | refine eva_cons ?_ ?_ | exact ev_str | exact ev_int | exact ev_neg | refine ev_tup ?_ | exact ev_var rfl (.str _) | exact ev_var rfl (.int _) | (refine ev_var rfl ?_; assumption))))


theorem w_tupG {t : TA} {sp : SpG} {σ : L2.St} {H : Hp} {Q : VK} (h : t σ H fun vs H1 => sp vs H1 (fun out H2 => ∀ p H3, H2 p = none → Same H2 H3 → H3 p = some (.tup out) → Q (.ref p) H3) (fun _ _ _ => False)) : tTupG (fun σ H cont => t σ H fun vs H1 => sp vs H1 cont fun _ _ _ => False) σ H Q := h
theorem rows_fo : ∀ (t : Gt) (d : List G2), fok d → fok (rows t ++ d) ∧ fo (rows t ++ d) = t :: fo d
  | .app f a, d, h => by
    obtain ⟨a1, a2⟩ := rows_fo a d h
    obtain ⟨f1, f2⟩ := rows_fo f (rows a ++ d) a1
    have e : rows (.app f a) ++ d = .app :: (rows f ++ (rows a ++ d)) := by
      show Rw.app :: (rows f ++ rows a) ++ d = _
      rw [List.cons_append, List.append_assoc]
    rw [e]
    refine ⟨⟨?_, f1⟩, ?_⟩
    · rw [f2, a2]; show 2 ≤ (fo d).length + 1 + 1; omega
    · show push1 .app (fo (rows f ++ (rows a ++ d))) = _
      rw [f2, a2]; rfl
  | .lam k b, d, h => by
    obtain ⟨b1, b2⟩ := rows_fo b d h
    refine ⟨⟨?_, b1⟩, ?_⟩
    · show 1 ≤ (fo (rows b ++ d)).length
      rw [b2]; show 1 ≤ (fo d).length + 1; omega
    · show push1 (.lam k) (fo (rows b ++ d)) = _
      rw [b2]; rfl
  | .tip x, d, h => ⟨⟨Nat.zero_le _, h⟩, rfl⟩
theorem rows_ok (t : Gt) : fok (rows t) ∧ fo (rows t) = [t] := by
  have := rows_fo t [] trivial
  rwa [List.append_nil] at this
def sp_law_ask_places : Sp := sp1 fun x H Q _ => ∃ (p : Addr) (t : Gt), x = .ref p ∧ DL H p (gd (rows t)) ∧ OkT 120 t ∧ t.nodes ≤ 100 ∧ ∀ H', Same H H' → Q (.bl true) H'
theorem ok_law_ask_places (T : Txt w K mg) {fd : FuncData} (F : Fn_law_ask_places K fd) (hm : mg "_law_ask_places" = some (.ref (He.ga K "_law_ask_places"))) (c_law_extents : CalX P w K mg base CX0 1 "_law_extents" sp_law_extents)(c_law_parts : CalX P w K mg base CX0 1 "_law_parts" sp_law_parts)(c_law_spots : CalX P w K mg base CX0 1 "_law_spots" sp_law_spots)(c_law_same : CalG P w K mg base CX0 1 "_law_same" sp_law_same)(c_places : CalGen P w K mg base 1 "places" sp_places)(c_part_at : CalX P w K mg base CX0 2 "part_at" sp_part_at) : CalG P w K mg base CX0 6 "_law_ask_places" sp_law_ask_places := by
  refine calg0 (k := 5) F hm sc_law_ask_places (b_law_ask_places F) (fun _ _ _ _ h => sp1_len h) (fun cdv A outer s H vs Q E hr h => ?_)
  obtain ⟨x0, rfl, h⟩ := h
  refine ⟨_, (pss_cons (ps_set (i := 1) sc_law_ask_places.nd rfl (Or.inl rfl) (pe_cx c_law_extents hr.toRoom (by decide) rfl pass0 (pa_cons (pv 0) pa_nil)))
    (pss_cons (ps_set (i := 2) sc_law_ask_places.nd rfl (Or.inl rfl) (pe_cx c_law_parts hr.toRoom (by decide) rfl pass0 (pa_cons (pv 0) (pa_cons (pv 1) pa_nil))))
    (pss_cons (ps_set (i := 3) sc_law_ask_places.nd rfl (Or.inl rfl) (pe_cx c_law_spots hr.toRoom (by decide) rfl pass0 (pa_cons (pv 0) pa_nil)))
    (pss_cons (ps_if (pt_not (pt_val (pe_cg c_law_same hr (by decide) rfl pass0 (pa_cons (pe_tupGc c_places hr.toRoom (by decide) rfl (pa_cons (pe_ix ix_list (pv 2) pe_int (fun _ _ => rfl)) pa_nil) (by rfl) T.f_tuple) (pa_cons (pe_callTy call_tupL (by rfl) T.f_tuple (by decide +kernel) (pa_cons (pv 3) pa_nil)) pa_nil)))))
    (pss_one (ps_ret pe_bl))
    pss_nil)
    (pss_cons (ps_for PassesOwn.never rfl (pi_range1 (by rfl) T.f_range (pa_cons (pe_callB call_lenQ (by rfl) T.f_len PySem.boot_len (pa_cons (pv 0) pa_nil)) pa_nil)) (pg_name (i := 4) sc_law_ask_places.nd rfl (Or.inl rfl))
    (pss_one (ps_if (pt_not (pt_val (pe_cg c_law_same hr (by decide) rfl pass0 (pa_cons (pe_cx c_part_at hr.toRoom (by decide) rfl pass0 (pa_cons (pe_ix ix_list (pv 2) pe_int (fun _ _ => rfl)) (pa_cons (pe_ix ix_list (pv 3) (pv 4) (fun _ _ => rfl)) pa_nil))) (pa_cons (pe_ix ix_list (pv 2) (pv 4) (fun _ _ => rfl)) pa_nil)))))
    (pss_one (ps_ret pe_bl))
    pss_nil)))
    (pss_one (ps_ret pe_bl))))))), ?_⟩
  rw [show start ["code", "extents", "parts", "spots", "k"] [x0] = [some x0, none, none, none, none] from rfl]
  obtain ⟨p, t, rfl, hd, hok, hn, hQ⟩ := h
  try dsimp only [cxOf]
  walk_at "v"
  refine ⟨_, rfl, p, t, rfl, hd, by omega, fun e H1 he s1 d1 => ?_⟩
  walk_at "v"
  refine ⟨_, _, rfl, p, e, t, rfl, rfl, hd.same s1, d1, by omega, fun q H2 hq s2 d2 => ?_⟩
  walk_at "v"
  have s02 := s1.tr s2
  refine ⟨_, rfl, p, t, rfl, hd.same s02, by omega, fun r H3 hr3 s3 d3 => ?_⟩
  walk_at "v"
  have s03 := s02.tr s3
  have d2' := d2.same s3
  obtain ⟨l, el⟩ := subs_head t
  have e0 : (trs (subs t))[0]? = some (upT t).d := trs_at (by rw [el]; rfl)
  refine w_tupG ?_
  walk_at "v"
  refine l_ix (n := 0) d2' e0 (fun y ty => ?_)
  walk_at "v"
  refine ⟨y, t, rfl, ty, by omega, fun out H4 s4 tout p4 H5 hp4 s5 e5 => ?_⟩
  walk_at "v"
  have s35 := s4.tr s5
  refine t_ofL (d3.same s35) (fun z H6 s6 t6 => ?_)
  walk_at "v"
  have t5 : TD H5 (.ref p4) (.tuple ((plT t []).map plD)) := .tup (.inl e5) (tout.tm (Tm.same s5))
  refine ⟨_, _, rfl, _, t5.tm (Tm.same s6), t6, shw_places hn, ?_⟩
  walk_at "v"
  have s06 := (s03.tr s35).tr s6
  have s26 := (s3.tr s35).tr s6
  have s36 := s35.tr s6
  refine l_len (hd.same s06) ?_
  rw [gd_len, rows_len]
  walk_at "v"
  refine w_rg1 (by omega) (by omega) ?_
  rw [show ((t.nodes : Int)).toNat = t.nodes from Int.toNat_natCast _]
  refine for_range (fun i σ H' => ∃ (v4 : Option V), σ = [some (.ref p), some (.ref e), some (.ref q), some (.ref r), v4] ∧ Same H6 H')
    ⟨_, rfl, Same.refl' _⟩ ?_ ?_
  · rintro i σ G hi ⟨v4, rfl, sg⟩
    obtain ⟨s, es⟩ := subs_at hi
    have dq := (d2.same s26).same sg
    have dr := (d3.same s36).same sg
    have ep : ∃ pl, (plT t [])[i]? = some pl := ⟨_, List.getElem?_eq_getElem (by rw [plT_len]; exact hi)⟩
    obtain ⟨pl, ep⟩ := ep
    obtain ⟨r', e1, e2, e3, e4⟩ := pl_at t [] ep es
    rw [List.nil_append] at e1
    subst e1
    dsimp only [gName]
    walk_at "v"
    rw [show (0 : Int) + (i : Int) = (i : Int) by omega]
    refine l_ix (n := 0) dq e0 (fun y ty => ?_)
    walk_at "v"
    refine l_ix (n := i) dr (by rw [List.getElem?_map, ep]; rfl) (fun y2 ty2 => ?_)
    walk_at "v"
    refine ⟨_, _, rfl, t, s, _, ty, ty2, e2, fun v tv => ?_⟩
    walk_at "v"
    refine l_ix (n := i) dq (trs_at es) (fun y3 ty3 => ?_)
    walk_at "v"
    have ok := hok.sub (by omega) (List.mem_of_getElem? es)
    refine same_T tv ty3 (shw_T (ok.mono (by omega)) (by have := subs_nodes (List.mem_of_getElem? es); omega)) ?_
    walk_at "v"
    exact ⟨_, rfl, sg⟩
  · rintro σ G ⟨v4, rfl, sg⟩
    walk_at "v"
    exact hQ G (s06.tr sg)

def sp_law_ask_reading : Sp := sp1 fun x H Q _ => ∃ (p : Addr) (t : Gt), x = .ref p ∧ DL H p (gd (rows t)) ∧ OkT 120 t ∧ lgT t ∧ t.nodes ≤ 100 ∧ ∀ H', Same H H' → Q (.bl true) H'
theorem ok_law_ask_reading (T : Txt w K mg) {fd : FuncData} (F : Fn_law_ask_reading K fd) (hm : mg "_law_ask_reading" = some (.ref (He.ga K "_law_ask_reading"))) (c_law_extents : CalX P w K mg base CX0 1 "_law_extents" sp_law_extents)(c_law_parts : CalX P w K mg base CX0 1 "_law_parts" sp_law_parts)(c_law_levels : CalX P w K mg base CX0 1 "_law_levels" sp_law_levels)(c_law_same : CalG P w K mg base CX0 1 "_law_same" sp_law_same)(c_read_formula : CalX P w K mg base CX0 2 "read_formula" sp_read_formula)(c_law_read : CalX P w K mg base CX0 1 "_law_read" sp_law_read)(c_spine : CalX P w K mg base CX0 1 "spine" sp_spine)(c_law_spine : CalX P w K mg base CX0 1 "_law_spine" sp_law_spine) : CalG P w K mg base CX0 3 "_law_ask_reading" sp_law_ask_reading := by
  refine calg0 (k := 2) F hm sc_law_ask_reading (b_law_ask_reading F) (fun _ _ _ _ h => sp1_len h) (fun cdv A outer s H vs Q E hr h => ?_)
  obtain ⟨x0, rfl, h⟩ := h
  refine ⟨_, (pss_cons (ps_set (i := 1) sc_law_ask_reading.nd rfl (Or.inl rfl) (pe_cx c_law_extents hr.toRoom (by decide) rfl pass0 (pa_cons (pv 0) pa_nil)))
    (pss_cons (ps_set (i := 2) sc_law_ask_reading.nd rfl (Or.inl rfl) (pe_cx c_law_parts hr.toRoom (by decide) rfl pass0 (pa_cons (pv 0) (pa_cons (pv 1) pa_nil))))
    (pss_cons (ps_set (i := 3) sc_law_ask_reading.nd rfl (Or.inl rfl) (pe_cx c_law_levels hr.toRoom (by decide) rfl pass0 (pa_cons (pv 0) pa_nil)))
    (pss_cons (ps_for PassesOwn.never rfl (pi_range1 (by rfl) T.f_range (pa_cons (pe_callB call_lenQ (by rfl) T.f_len PySem.boot_len (pa_cons (pv 0) pa_nil)) pa_nil)) (pg_name (i := 4) sc_law_ask_reading.nd rfl (Or.inl rfl))
    (pss_cons (ps_if (pt_not (pt_val (pe_cg c_law_same hr (by decide) rfl pass0 (pa_cons (pe_cx c_read_formula hr.toRoom (by decide) rfl pass0 (pa_cons (pe_ix ix_list (pv 2) (pv 4) (fun _ _ => rfl)) pa_nil)) (pa_cons (pe_cx c_law_read hr.toRoom (by decide) rfl pass0 (pa_cons (pv 0) (pa_cons (pv 1) (pa_cons (pv 2) (pa_cons (pv 4) pa_nil))))) pa_nil)))))
    (pss_one (ps_ret pe_bl))
    pss_nil)
    (pss_one (ps_if (PW.pt (pw_and (pt_cmpR op_eq (pe_ix ix_list (pv 3) (pv 4) (fun _ _ => rfl)) pe_int (nomark _)) (pw_and1 (pt_not (pt_val (pe_cg c_law_same hr (by decide) rfl pass0 (pa_cons (pe_cx c_spine hr.toRoom (by decide) rfl pass0 (pa_cons (pe_ix ix_list (pv 2) (pv 4) (fun _ _ => rfl)) pa_nil)) (pa_cons (pe_cx c_law_spine hr.toRoom (by decide) rfl pass0 (pa_cons (pv 0) (pa_cons (pv 1) (pa_cons (pv 2) (pa_cons (pv 4) pa_nil))))) pa_nil))))))))
    (pss_one (ps_ret pe_bl))
    pss_nil))))
    (pss_one (ps_ret pe_bl)))))), ?_⟩
  rw [show start ["code", "extents", "parts", "levels", "k"] [x0] = [some x0, none, none, none, none] from rfl]
  obtain ⟨p, t, rfl, hd, hok, hlg, hn, hQ⟩ := h
  try dsimp only [cxOf]
  walk_at "v"
  refine ⟨_, rfl, p, t, rfl, hd, by omega, fun e H1 he s1 d1 => ?_⟩
  walk_at "v"
  refine ⟨_, _, rfl, p, e, t, rfl, rfl, hd.same s1, d1, by omega, fun q H2 hq s2 d2 => ?_⟩
  walk_at "v"
  have s02 := s1.tr s2
  obtain ⟨ro1, ro2⟩ := rows_ok t
  refine ⟨_, rfl, p, rows t, rfl, hd.same s02, ro1, by rw [ro2]; rfl, by rw [rows_len]; omega, fun r H3 hr3 s3 d3 => ?_⟩
  walk_at "v"
  have s03 := s02.tr s3
  refine l_len (hd.same s03) ?_
  rw [gd_len, rows_len]
  walk_at "v"
  refine w_rg1 (by omega) (by omega) ?_
  rw [show ((t.nodes : Int)).toNat = t.nodes from Int.toNat_natCast _]
  refine for_range (fun i σ H' => ∃ (v4 : Option V), σ = [some (.ref p), some (.ref e), some (.ref q), some (.ref r), v4] ∧ Same H3 H')
    ⟨_, rfl, Same.refl' _⟩ ?_ ?_
  · rintro i σ G hi ⟨v4, rfl, sg⟩
    have hi : i < t.nodes := hi
    obtain ⟨s, es⟩ := subs_at hi
    have sm := List.mem_of_getElem? es
    have hns := subs_nodes sm
    have ok := hok.sub (by omega) sm
    have s0g := s03.tr sg
    have dq := (d2.same s3).same sg
    have de := ((d1.same s2).same s3).same sg
    have dp := hd.same s0g
    dsimp only [gName]
    walk_at "v"
    rw [show (0 : Int) + (i : Int) = (i : Int) by omega]
    refine l_ix (n := i) dq (trs_at es) (fun y ty => ?_)
    walk_at "v"
    refine ⟨_, rfl, s, ty, ok.1, subs_lg hlg sm, by omega, fun v1 G1 r1 t1 => ?_⟩
    walk_at "v"
    refine ⟨_, _, _, _, rfl, p, e, q, t, s, i, rfl, rfl, rfl, rfl, dp.same r1, de.same r1, dq.same r1, es, fun v2 G2 r2 t2 => ?_⟩
    walk_at "v"
    have r12 := r1.tr r2
    obtain ⟨⟨ds, eds⟩, sw⟩ := shw_rd ok (by omega)
    refine ⟨_, _, rfl, ds, by rw [← eds]; exact t1.tm (Tm.same r2), by rw [← eds]; exact t2, by rw [← eds]; exact sw, ?_⟩
    walk_at "v"
    obtain ⟨l, el, edl⟩ := lv_at (c := rows t) (i := i) (by rw [rows_len]; exact hi)
    refine l_ix (n := i) ((d3.same sg).same r12) edl (fun x tx => ?_)
    rw [tx.num]
    walk_at "v"
    refine w_dec (fun h1 => ?_) (fun h1 => ?_)
    · walk_at "v"
      refine l_ix (n := i) (dq.same r12) (trs_at es) (fun y3 ty3 => ?_)
      walk_at "v"
      refine ⟨_, rfl, s, ty3, by omega, fun v3 G3 r3 t3 => ?_⟩
      walk_at "v"
      have r13 := r12.tr r3
      refine ⟨_, _, _, _, rfl, p, e, q, t, s, i, rfl, rfl, rfl, rfl, dp.same r13, de.same r13, dq.same r13, by omega, es, fun v4 G4 r4 t4 => ?_⟩
      walk_at "v"
      refine ⟨_, _, rfl, _, t3.tm (Tm.same r4), t4, shw_sp ok (by omega), ?_⟩
      walk_at "v"
      exact ⟨_, rfl, sg.tr (r13.tr r4)⟩
    · walk_at "v"
      exact ⟨_, rfl, sg.tr r12⟩
  · rintro σ G ⟨v4, rfl, sg⟩
    walk_at "v"
    exact hQ G (s03.tr sg)
end
end K03

namespace K03
open PySem PySem.Spec PyProof.Rows L2 SX K02 K01
local macro_rules | `(tactic| walk_at "w1") => `(tactic| (first
  | with_reducible refine w_seq ?_ | with_reducible refine w_asgN ?_ | with_reducible refine w_c ?_
  | ((with_reducible refine' w_var ?wv ?_); (case wv => exact rfl))
  | with_reducible refine w_op ?_ | with_reducible refine w_un ?_ | with_reducible refine w_next ?_ | with_reducible refine w_brk ?_ | with_reducible refine w_cnt ?_
  | with_reducible refine w_ifS ?_ | with_reducible refine w_if ?_ | with_reducible refine w_test ?_ | with_reducible refine w_tB ?_ | with_reducible refine w_bl ?_ | with_reducible refine w_blI ?_
  | with_reducible refine w_and ?_ | with_reducible refine w_or ?_ | with_reducible refine w_not ?_ | with_reducible refine w_andV ?_ | with_reducible refine w_orV ?_ | with_reducible refine w_notV ?_
  | with_reducible refine w_nil ?_ | with_reducible refine w_cons ?_ | with_reducible refine w_cb ?_ | with_reducible refine w_call ?_ | with_reducible refine w_callS ?_ | with_reducible refine w_chain ?_
  | with_reducible refine w_tupN ?_ | with_reducible refine w_lstN ?_ | with_reducible refine w_sl ?_ | with_reducible refine w_noPart ?_ | with_reducible refine w_part ?_ | with_reducible refine w_partI ?_
  | with_reducible refine w_ret ?_ | with_reducible refine w_retN ?_ | with_reducible refine w_drop ?_ | with_reducible refine w_asg ?_ | with_reducible refine w_gSub ?_
  | ((with_reducible refine' w_aug ?wv ?_); (case wv => exact rfl)) | with_reducible refine w_ipI ?_
  | with_reducible refine w_addI ?_ | with_reducible refine w_subI ?_ | with_reducible refine w_ltI ?_ | with_reducible refine w_leI ?_ | with_reducible refine w_gtI ?_ | with_reducible refine w_geI ?_
  | with_reducible refine w_eqI ?_ | with_reducible refine w_neI ?_ | with_reducible refine w_eqT ?_ | with_reducible refine w_neT ?_ | with_reducible refine w_inS ?_ | with_reducible refine w_ninS ?_
  | with_reducible refine w_absI ?_ | with_reducible refine w_intI ?_ | with_reducible refine w_maxI ?_ | with_reducible refine w_minI ?_
  | with_reducible refine w_for ?_ | with_reducible refine w_iR1 ?_ | with_reducible refine w_iR2 ?_ | with_reducible refine w_iStr ?_ | with_reducible refine w_strI ?_ | with_reducible refine w_iList ?_ | with_reducible refine w_iTup ?_
  | with_reducible refine w_bm ?_ | with_reducible refine w_bm0 ?_ | with_reducible refine w_t ?_ | with_reducible refine w_f ?_ | with_reducible refine w_nt ?_ | with_reducible refine w_nx ?_ | with_reducible refine w_rt ?_ | with_reducible refine w_bk ?_ | with_reducible refine w_ct ?_ | with_reducible refine w_nf ?_ | with_reducible refine w_lc ?_ | with_reducible refine w_yes ?_ | with_reducible refine w_neg ?_ | with_reducible refine w_intB ?_ | with_reducible refine w_fld ?_ | with_reducible refine w_setf ?_ | with_reducible refine w_faug ?_ | with_reducible refine w_meth ?_ | with_reducible refine w_bmS ?_ | with_reducible refine w_start ?_ | with_reducible refine w_revL ?_ | with_reducible refine w_iR3 ?_))
local macro_rules | `(tactic| walk_at "w") => `(tactic| (repeat (first | walk_at "w1" | dsimp (config := { proj := false }) only [List.set_cons_zero, List.set_cons_succ])))
section
variable {w : World} [Lit] {mg : Str → Option Value} {base : Heap}
local macro_rules | `(tactic| walk_at "v1") => `(tactic| (first
  | with_reducible refine w_seq ?_ | with_reducible refine w_asgN ?_ | with_reducible refine w_c ?_
  | ((with_reducible refine' w_var ?wv ?_); (case wv => exact rfl))
  | with_reducible refine w_op ?_ | with_reducible refine w_un ?_ | with_reducible refine w_next ?_ | with_reducible refine w_brk ?_ | with_reducible refine w_cnt ?_
  | with_reducible refine w_ifS ?_ | with_reducible refine w_if ?_ | with_reducible refine w_test ?_ | with_reducible refine w_tB ?_ | with_reducible refine w_bl ?_ | with_reducible refine w_blI ?_
  | with_reducible refine w_and ?_ | with_reducible refine w_or ?_ | with_reducible refine w_not ?_ | with_reducible refine w_andV ?_ | with_reducible refine w_orV ?_ | with_reducible refine w_notV ?_
  | with_reducible refine w_nil ?_ | with_reducible refine w_cons ?_ | with_reducible refine w_cb ?_ | with_reducible refine w_call ?_ | with_reducible refine w_callS ?_ | with_reducible refine w_chain ?_
  | with_reducible refine w_sl ?_ | with_reducible refine w_noPart ?_ | with_reducible refine w_part ?_ | with_reducible refine w_partI ?_
  | with_reducible refine w_ret ?_ | with_reducible refine w_retN ?_ | with_reducible refine w_drop ?_ | with_reducible refine w_asg ?_ | with_reducible refine w_gSub ?_
  | ((with_reducible refine' w_aug ?wv ?_); (case wv => exact rfl)) | with_reducible refine w_ipI ?_
  | with_reducible refine w_addI ?_ | with_reducible refine w_subI ?_ | with_reducible refine w_ltI ?_ | with_reducible refine w_leI ?_ | with_reducible refine w_gtI ?_ | with_reducible refine w_geI ?_
  | with_reducible refine w_eqI ?_ | with_reducible refine w_neI ?_ | with_reducible refine w_eqT ?_ | with_reducible refine w_neT ?_ | with_reducible refine w_inS ?_ | with_reducible refine w_ninS ?_
  | with_reducible refine w_absI ?_ | with_reducible refine w_intI ?_ | with_reducible refine w_maxI ?_ | with_reducible refine w_minI ?_
  | with_reducible refine w_for ?_ | with_reducible refine w_iR1 ?_ | with_reducible refine w_iR2 ?_ | with_reducible refine w_iStr ?_ | with_reducible refine w_strI ?_ | with_reducible refine w_iList ?_ | with_reducible refine w_iTup ?_
  | with_reducible refine w_bm ?_ | with_reducible refine w_bm0 ?_ | with_reducible refine w_t ?_ | with_reducible refine w_f ?_ | with_reducible refine w_nt ?_ | with_reducible refine w_nx ?_ | with_reducible refine w_rt ?_ | with_reducible refine w_bk ?_ | with_reducible refine w_ct ?_ | with_reducible refine w_nf ?_ | with_reducible refine w_lc ?_ | with_reducible refine w_yes ?_ | with_reducible refine w_neg ?_ | with_reducible refine w_intB ?_ | with_reducible refine w_fld ?_ | with_reducible refine w_setf ?_ | with_reducible refine w_faug ?_ | with_reducible refine w_meth ?_ | with_reducible refine w_bmS ?_ | with_reducible refine w_start ?_ | with_reducible refine w_revL ?_ | with_reducible refine w_iR3 ?_))
local macro_rules | `(tactic| walk_at "v") => `(tactic| (repeat (first | walk_at "v1" | dsimp (config := { proj := false }) only [List.set_cons_zero, List.set_cons_succ])))
local macro_rules | `(tactic| walk_at "d") => `(tactic| (repeat (first | exact eva_nil | refine eva_cons ?_ ?_ | exact ev_str | exact ev_int | exact ev_neg | refine ev_tup ?_ | exact ev_var rfl (.str _) | exact ev_var rfl (.int _) | (refine ev_var rfl ?_; assumption))))


theorem lg_rows {ws : List (List Nat)} : ∀ {t : Gt}, (∀ r ∈ rows t, r.gok ∧ fine ws r) → t.gok ∧ lgT t
  | .app f a, h => by
    have h1 := lg_rows (t := f) fun r hr => h r (List.mem_cons_of_mem _ (List.mem_append_left _ hr))
    have h2 := lg_rows (t := a) fun r hr => h r (List.mem_cons_of_mem _ (List.mem_append_right _ hr))
    exact ⟨⟨h1.1, h2.1⟩, h1.2, h2.2⟩
  | .lam k b, h => by
    have h1 := lg_rows (t := b) fun r hr => h r (List.mem_cons_of_mem _ hr)
    exact ⟨⟨(h (.lam k) List.mem_cons_self).1, h1.1⟩, h1.2⟩
  | .tip (.var w k), h => ⟨(h _ List.mem_cons_self).1, trivial⟩
  | .tip (.bnd i), h => ⟨trivial, trivial⟩
  | .tip (.cst w k), h => ⟨(h _ List.mem_cons_self).1, (h _ List.mem_cons_self).2.2⟩
/-- a grown code is a tree's -/
theorem grown_ok {ws : List (List Nat)} {c : List G2} {k : Kd} {n : Nat} (h : TF c [(k, [])]) (g : ∀ r ∈ c, r.gok ∧ fine ws r) (hn : c.length ≤ n) (h9 : n ≤ 900) : ∃ t, c = rows t ∧ typed t [] = some k ∧ OkT n t ∧ lgT t ∧ t.nodes ≤ n := by
  obtain ⟨t, h1, h2, h3⟩ := TF.one h
  have e := rows_of h1 h2
  subst e
  obtain ⟨g1, g2⟩ := lg_rows g
  rw [rows_len] at hn
  have hd := dep_nodes t
  exact ⟨t, rfl, h3, ⟨g1, smB_scope t 0 (typed_scope h3) (by omega), by omega⟩, g2, hn⟩
theorem gk_two : GK (.to bK (.to bK bK)) := ⟨⟨bK_ok, bK_ok, bK_ok⟩, by decide⟩
theorem nest_ok {w : List Nat} (hw : isTwo w) {m : Nat} {g : Gt} (hg : g.gok ∧ smB g ∧ g.nodes ≤ m) : ∀ {as : List Gt}, (∀ x ∈ as, x.gok ∧ smB x ∧ x.nodes ≤ m) → (nestT w as g).gok ∧ smB (nestT w as g) ∧ (nestT w as g).nodes ≤ (m + 3) * as.length + m
  | [], _ => ⟨hg.1, hg.2.1, by show g.nodes ≤ (m + 3) * 0 + m; omega⟩
  | x :: as, h => by
    obtain ⟨h1, h2, h3⟩ := nest_ok hw hg (as := as) fun y hy => h y (List.mem_cons_of_mem _ hy)
    obtain ⟨x1, x2, x3⟩ := h x List.mem_cons_self
    refine ⟨⟨⟨⟨.inr (lkT_two hw).2, gk_two⟩, x1⟩, h1⟩, ⟨⟨trivial, x2⟩, h2⟩, ?_⟩
    show 1 + x.nodes + 1 + (nestT w as g).nodes + 1 ≤ (m + 3) * (as.length + 1) + m
    rw [Nat.mul_succ]; omega
theorem nest_T {w : List Nat} (hw : isTwo w) {g : Gt} {as : List Gt} (hl : as.length ≤ 5) (h : ∀ x ∈ as ++ [g], x.gok ∧ smB x ∧ x.nodes ≤ 17) : OkT 130 (nestT w as g) ∧ (nestT w as g).nodes ≤ 700 := by
  obtain ⟨h1, h2, h3⟩ := nest_ok hw (h g (by simp)) (as := as) fun x hx => h x (List.mem_append_left _ hx)
  have h4 : (17 + 3) * as.length ≤ (17 + 3) * 5 := Nat.mul_le_mul_left _ hl
  have h5 := dep_nodes (nestT w as g)
  exact ⟨⟨h1, h2, by omega⟩, by omega⟩
def sp_law_ask_joined : Sp := sp3 fun x y z H Q _ => ∃ (a p q : Addr) (ws : List (List Nat)), x = .ref a ∧ y = .ref p ∧ z = .ref q ∧ Pot a H ∧ NmW ws H p ∧ PoL H q ∧ ∀ H', Pot a H' → Kb a H H' → Q (.bl true) H'
theorem ok_law_ask_joined (T : Txt w K mg) {fd : FuncData} (F : Fn_law_ask_joined K fd) (hm : mg "_law_ask_joined" = some (.ref (He.ga K "_law_ask_joined"))) (c_law_take : CalX P w K mg base CX0 1 "_law_take" sp_law_take)(c_law_grown : CalX P w K mg base CX0 3 "_law_grown" sp_law_grown)(c_law_built : CalX P w K mg base CX0 2 "_law_built" sp_built)(c_law_same : CalG P w K mg base CX0 1 "_law_same" sp_law_same)(c_law_conjunction : CalX P w K mg base CX0 4 "_law_conjunction" sp_law_conjunction)(c_law_disjunction : CalX P w K mg base CX0 4 "_law_disjunction" sp_law_disjunction)(c_law_implication : CalX P w K mg base CX0 4 "_law_implication" sp_law_implication)(c_law_nested : CalX P w K mg base CX0 1 "_law_nested" sp_law_nested)(c_negation : CalX P w K mg base CX0 2 "negation" sp_negation) : CalG P w K mg base CX0 5 "_law_ask_joined" sp_law_ask_joined := by
  refine calg0 (k := 4) F hm sc_law_ask_joined (b_law_ask_joined F) (fun _ _ _ _ h => sp3_len h) (fun cdv A outer s H vs Q E hr h => ?_)
  obtain ⟨x0, x1, x2, rfl, h⟩ := h
  refine ⟨_, (pss_cons (ps_set (i := 3) sc_law_ask_joined.nd rfl (Or.inl rfl) (pe_tup (pa_cons pe_str (pa_cons pe_str pa_nil))))
    (pss_cons (ps_set (i := 4) sc_law_ask_joined.nd rfl (Or.inl rfl) (pe_lst pa_nil))
    (pss_cons (ps_for PassesOwn.never rfl (pi_range1 (by rfl) T.f_range (pa_cons (pe_op op_addI pe_int (pe_cx c_law_take hr.toRoom (by decide) rfl pass0 (pa_cons (pv 0) (pa_cons pe_int pa_nil)))) pa_nil)) (pg_name (i := 5) sc_law_ask_joined.nd rfl (Or.inl rfl))
    (pss_one (ps_expr (pe_bm PySem.F.plainAttrs_list PySem.F.slot_list_append PySem.F.type_list_append mt_append (pv 4) (pa_cons (pe_cx c_law_built hr.toRoom (by decide) rfl pass0 (pa_cons (pe_cx c_law_grown hr.toRoom (by decide) rfl pass0 (pa_cons (pv 0) (pa_cons (pv 3) (pa_cons (pv 1) (pa_cons (pv 2) (pa_cons (pe_cx c_law_take hr.toRoom (by decide) rfl pass0 (pa_cons (pv 0) (pa_cons pe_int pa_nil))) pa_nil)))))) pa_nil)) pa_nil)))))
    (pss_cons (ps_if (pt_not (pt_val (pe_cg c_law_same hr (by decide) rfl pass0 (pa_cons (pe_cx c_law_conjunction hr.toRoom (by decide) rfl pass0 (pa_cons (pv 4) pa_nil)) (pa_cons (pe_cx c_law_nested hr.toRoom (by decide) rfl pass0 (pa_cons (pv 4) (pa_cons pe_str pa_nil))) pa_nil)))))
    (pss_one (ps_ret pe_bl))
    pss_nil)
    (pss_cons (ps_if (pt_not (pt_val (pe_cg c_law_same hr (by decide) rfl pass0 (pa_cons (pe_cx c_law_disjunction hr.toRoom (by decide) rfl pass0 (pa_cons (pv 4) pa_nil)) (pa_cons (pe_cx c_law_nested hr.toRoom (by decide) rfl pass0 (pa_cons (pv 4) (pa_cons pe_str pa_nil))) pa_nil)))))
    (pss_one (ps_ret pe_bl))
    pss_nil)
    (pss_cons (ps_if (pt_not (pt_val (pe_cg c_law_same hr (by decide) rfl pass0 (pa_cons (pe_cx c_law_implication hr.toRoom (by decide) rfl pass0 (pa_cons (pv 4) pa_nil)) (pa_cons (pe_cx c_law_nested hr.toRoom (by decide) rfl pass0 (pa_cons (pv 4) (pa_cons pe_str pa_nil))) pa_nil)))))
    (pss_one (ps_ret pe_bl))
    pss_nil)
    (pss_cons (ps_set (i := 6) sc_law_ask_joined.nd rfl (Or.inl rfl) (pe_tup (pa_cons pe_str (pa_cons (pe_tup (pa_cons pe_str (pa_cons pe_str (pa_cons (pe_tup (pa_cons pe_str (pa_cons (pv 3) (pa_cons (pv 3) pa_nil)))) pa_nil)))) (pa_cons (pe_ix ix_list (pv 4) pe_int (fun _ _ => rfl)) pa_nil)))))
    (pss_one (ps_ret (pe_cg c_law_same hr (by decide) rfl pass0 (pa_cons (pe_cx c_negation hr.toRoom (by decide) rfl pass0 (pa_cons (pe_ix ix_list (pv 4) pe_int (fun _ _ => rfl)) pa_nil)) (pa_cons (pv 6) pa_nil)))))))))))), ?_⟩
  rw [show start ["pot", "words", "pool", "truth", "line", "k", "due"] [x0, x1, x2] = [some x0, some x1, some x2, none, none, none, none] from rfl]
  have ec0 : Str.ofString "named" = S [110,97,109,101,100] := S_ofs (by decide +kernel)
  have ec1 : Str.ofString "bool" = S [98,111,111,108] := S_ofs (by decide +kernel)
  have ec2 : Str.ofString "app" = S [97,112,112] := S_ofs (by decide +kernel)
  have ec3 : Str.ofString "const" = S [99,111,110,115,116] := S_ofs (by decide +kernel)
  have ec4 : Str.ofString "~" = S [126] := S_ofs (by decide +kernel)
  have ec5 : Str.ofString "&" = S [38] := S_ofs (by decide +kernel)
  have ec6 : Str.ofString "|" = S [124] := S_ofs (by decide +kernel)
  have ec7 : Str.ofString "=>" = S [61,62] := S_ofs (by decide +kernel)
  have ec8 : Str.ofString "to" = S [116,111] := S_ofs (by decide +kernel)
  rw [ec0, ec1, ec2, ec3, ec4, ec5, ec6, ec7, ec8]
  obtain ⟨a, p, q, ws, rfl, rfl, rfl, hP, hW, hL, hQ⟩ := h
  have hpa : p ≠ a := hW.ne hP
  have hqa : q ≠ a := hL.ne hP (by omega)
  try dsimp only [cxOf]
  walk_at "v"
  refine ev_go (d := bK.d) (by show Ev _ _ _ (.tuple [.str (S wNAMED), .str (S wBOOL)]); walk_at "d") (fun xb H1 s1 tb => ?_)
  walk_at "v"
  refine ev_lst (ds := trs []) (by walk_at "d") (fun l H2 hl s2 d2 => ?_)
  walk_at "v"
  have s02 := s1.tr s2
  have P2 := hP.same s02
  have hl0 : H l = none := s1.fresh hl
  have hla : l ≠ a := hP.ne hl0
  refine ⟨_, _, rfl, a, 6, rfl, rfl, by omega, by omega, P2, fun v3 H3 hv3 P3 k3 => ?_⟩
  walk_at "v"
  refine w_rg1 (by omega) (by omega) ?_
  rw [show ((1 : Int) + (v3 : Int)).toNat = v3 + 1 by omega]
  have k03 := (Kb.same (a := a) s02).tr k3
  refine for_range (fun i σ H' => ∃ (v5 : Option V) (gs : List Gt), σ = [some (.ref a), some (.ref p), some (.ref q), some xb, some (.ref l), v5, none] ∧ Pot a H' ∧ Kb a H H' ∧ TD H' xb bK.d ∧ DL H' l (trs gs) ∧ gs.length = i ∧ ∀ g ∈ gs, g.gok ∧ smB g ∧ g.nodes ≤ 17)
    ⟨_, [], rfl, P3, k03, (tb.tm (Tm.same s2)).tm (Kb.pot_tm P2 k3), DLkb d2 P2 k3 hla, rfl, fun g hg => absurd hg List.not_mem_nil⟩ ?_ ?_
  · rintro i σ G hi ⟨v5, gs, rfl, PG, kG, tG, dG, hgl, hgs⟩
    have hi : i < v3 + 1 := hi
    dsimp only [gName]
    walk_at "v"
    refine l_ty dG ?_
    walk_at "v"
    refine ⟨_, _, rfl, a, 5, rfl, rfl, by omega, by omega, PG, fun v6 H6 hv6 P6 k6 => ?_⟩
    walk_at "v"
    have k06 := kG.tr k6
    have t6 := tG.tm (Kb.pot_tm PG k6)
    refine ⟨_, _, _, _, _, rfl, a, p, q, bK, v6, ws, rfl, t6, rfl, rfl, rfl, P6, hW.kb hP k06 hpa, hL.kb hP k06 hqa, bK_ok, by decide, by omega, fun r H7 c hr d7 tf gf cl P7 k7 => ?_⟩
    walk_at "v"
    obtain ⟨t, rfl, ty, okt, lgt, nt⟩ := grown_ok tf gf cl (by omega)
    refine ⟨_, rfl, r, t, rfl, d7, by omega, fun v8 H8 s8 t8 => ?_⟩
    walk_at "v"
    have d8 := ((DLkb (DLkb dG PG k6 hla) P6 k7 hla).same s8)
    refine l_app d8 t8 (fun H9 d9 x9 => ?_) (by rw [trs_len']; omega)
    walk_at "v"
    obtain ⟨_, dl⟩ := d8.lst
    have tmx := Tm.ex dl x9
    have k08 := (k06.tr k7).then s8
    refine ⟨_, gs ++ [t], rfl, (P7.same s8).ex x9 hla.symm, k08.ex hl0 x9, ((((t6.tm (Kb.pot_tm P6 k7)).tm (Tm.same s8)).tm tmx)), by unfold trs; rw [List.map_append]; exact d9, by rw [List.length_append, hgl]; rfl, fun g hg => ?_⟩
    rcases List.mem_append.mp hg with hg | hg
    · exact hgs g hg
    · rw [List.mem_singleton.mp hg]; exact ⟨okt.1, okt.2.1, by omega⟩
  · rintro σ G ⟨v5, gs, rfl, PG, kG, tG, dG, hgl, hgs⟩
    have hne : gs ≠ [] := fun z => by rw [z] at hgl; cases hgl
    obtain ⟨as, g, eg⟩ := snoc_of hne
    have hal : as.length ≤ 5 := by
      have : gs.length = as.length + 1 := by rw [eg, List.length_append]; rfl
      omega
    have hgs' : ∀ x ∈ as ++ [g], x.gok ∧ smB x ∧ x.nodes ≤ 17 := by rw [← eg]; exact hgs
    walk_at "v"
    refine ⟨_, rfl, l, gs, rfl, dG, by omega, by omega, fun as' g' e' v11 G11 s11 t11 => ?_⟩
    obtain ⟨rfl, rfl⟩ : as = as' ∧ g = g' := by
      rw [eg] at e'
      have h1 := List.append_inj' e' rfl
      exact ⟨h1.1, (List.cons.inj h1.2).1⟩
    walk_at "v"
    refine ⟨_, _, rfl, l, gAND, as, g, rfl, rfl, by rw [← eg]; exact dG.same s11, by omega, fun w11 K11 r11 u11 => ?_⟩
    walk_at "v"
    obtain ⟨o11, n11⟩ := nest_T (w := gAND) (.inl rfl) hal hgs'
    refine same_T (t11.tm (Tm.same r11)) u11 (shw_T o11 n11) ?_
    walk_at "v"
    have q11 := s11.tr r11
    refine ⟨_, rfl, l, gs, rfl, (dG.same q11), by omega, by omega, fun as' g' e' v12 G12 s12 t12 => ?_⟩
    obtain ⟨rfl, rfl⟩ : as = as' ∧ g = g' := by
      rw [eg] at e'
      have h1 := List.append_inj' e' rfl
      exact ⟨h1.1, (List.cons.inj h1.2).1⟩
    walk_at "v"
    refine ⟨_, _, rfl, l, gOR, as, g, rfl, rfl, by rw [← eg]; exact (dG.same q11).same s12, by omega, fun w12 K12 r12 u12 => ?_⟩
    walk_at "v"
    obtain ⟨o12, n12⟩ := nest_T (w := gOR) (.inr (.inl rfl)) hal hgs'
    refine same_T (t12.tm (Tm.same r12)) u12 (shw_T o12 n12) ?_
    walk_at "v"
    have q12 := q11.tr (s12.tr r12)
    refine ⟨_, rfl, l, gs, rfl, (dG.same q12), by omega, by omega, fun as' g' e' v13 G13 s13 t13 => ?_⟩
    obtain ⟨rfl, rfl⟩ : as = as' ∧ g = g' := by
      rw [eg] at e'
      have h1 := List.append_inj' e' rfl
      exact ⟨h1.1, (List.cons.inj h1.2).1⟩
    walk_at "v"
    refine ⟨_, _, rfl, l, gIMP, as, g, rfl, rfl, by rw [← eg]; exact (dG.same q12).same s13, by omega, fun w13 K13 r13 u13 => ?_⟩
    walk_at "v"
    obtain ⟨o13, n13⟩ := nest_T (w := gIMP) (.inr (.inr rfl)) hal hgs'
    refine same_T (t13.tm (Tm.same r13)) u13 (shw_T o13 n13) ?_
    walk_at "v"
    have q13 := q12.tr (s13.tr r13)
    obtain ⟨g0, gt, e0⟩ : ∃ g0 gt, gs = g0 :: gt := by
      cases gs with
      | nil => exact absurd rfl hne
      | cons g0 gt => exact ⟨g0, gt, rfl⟩
    have i0 : (trs gs)[0]? = some (upT g0).d := by rw [e0]; rfl
    obtain ⟨z1, z2, z3⟩ := hgs g0 (by rw [e0]; exact List.mem_cons_self)
    have tGb := tG.tm (Tm.same q13)
    have dGb := dG.same q13
    have okn : OkT 130 (.app (.tip (.cst gNOT (.to bK bK))) g0) := ⟨⟨⟨.inr (by decide), ⟨bK_ok, bK_ok⟩, by decide⟩, z1⟩, ⟨trivial, z2⟩, by have := dep_nodes g0; show max 1 g0.dep + 1 ≤ 130; omega⟩
    refine w_tupN ?_
    walk_at "v"
    refine ev_go (d := (upT (.tip (.cst gNOT (.to bK bK)) : Gt)).d) (by
      show Ev _ _ _ (.tuple [.str (S wCONST), .str (S gNOT), .tuple [.str (S wTO), bK.d, bK.d]])
      walk_at "d") (fun x5 H5 s5 t5 => ?_)
    walk_at "v"
    refine l_ix (n := 0) (dGb.same s5) i0 (fun y6 ty6 => ?_)
    walk_at "v"
    refine t_new (ds := [.str (S wAPP), (upT (.tip (.cst gNOT (.to bK bK)) : Gt)).d, (upT g0).d]) (.cons (.str _) (.cons t5 (.cons ty6 .nil))) (fun x7 H7 hx7 s7 t7 => ?_)
    walk_at "v"
    have s57 := s5.tr s7
    refine l_ix (n := 0) (dGb.same s57) i0 (fun y8 ty8 => ?_)
    walk_at "v"
    refine ⟨_, rfl, g0, ty8, fun v9 H9 s9 t9 => ?_⟩
    walk_at "v"
    refine same_T t9 (r := .app (.tip (.cst gNOT (.to bK bK))) g0) (t7.tm (Tm.same s9)) (shw_T okn (by show 1 + g0.nodes + 1 ≤ 700; omega)) ?_
    have sAll := (q13.tr s57).tr s9
    exact hQ H9 (PG.same sAll) (kG.then sAll)
def sp_law_ask_equation : Sp := sp3 fun x y z H Q _ => ∃ (a p q : Addr) (ws : List (List Nat)), x = .ref a ∧ y = .ref p ∧ z = .ref q ∧ Pot a H ∧ NmW ws H p ∧ PoL H q ∧ ∀ H', Pot a H' → Kb a H H' → Q (.bl true) H'
theorem ok_law_ask_equation (T : Txt w K mg) {fd : FuncData} (F : Fn_law_ask_equation K fd) (hm : mg "_law_ask_equation" = some (.ref (He.ga K "_law_ask_equation"))) (c_law_take : CalX P w K mg base CX0 1 "_law_take" sp_law_take)(c_law_grown : CalX P w K mg base CX0 3 "_law_grown" sp_law_grown)(c_law_built : CalX P w K mg base CX0 2 "_law_built" sp_built)(c_law_same : CalG P w K mg base CX0 1 "_law_same" sp_law_same)(c_equation : CalX P w K mg base CX0 132 "equation" sp_equation)(c_read_formula : CalX P w K mg base CX0 2 "read_formula" sp_read_formula) : CalG P w K mg base CX0 133 "_law_ask_equation" sp_law_ask_equation := by
  refine calg0 (k := 132) F hm sc_law_ask_equation (b_law_ask_equation F) (fun _ _ _ _ h => sp3_len h) (fun cdv A outer s H vs Q E hr h => ?_)
  obtain ⟨x0, x1, x2, rfl, h⟩ := h
  refine ⟨_, (pss_cons (ps_set (i := 3) sc_law_ask_equation.nd rfl (Or.inl rfl) (pe_tup (pa_cons pe_str (pa_cons pe_str pa_nil))))
    (pss_cons (ps_set (i := 4) sc_law_ask_equation.nd rfl (Or.inl rfl) (pe_ix ix_list (pv 2) (pe_cx c_law_take hr.toRoom (by decide) rfl pass0 (pa_cons (pv 0) (pa_cons pe_int pa_nil))) (fun _ _ => rfl)))
    (pss_cons (ps_set (i := 5) sc_law_ask_equation.nd rfl (Or.inl rfl) (pe_cx c_law_built hr.toRoom (by decide) rfl pass0 (pa_cons (pe_cx c_law_grown hr.toRoom (by decide) rfl pass0 (pa_cons (pv 0) (pa_cons (pv 4) (pa_cons (pv 1) (pa_cons (pv 2) (pa_cons (pe_cx c_law_take hr.toRoom (by decide) rfl pass0 (pa_cons (pv 0) (pa_cons pe_int pa_nil))) pa_nil)))))) pa_nil)))
    (pss_cons (ps_set (i := 6) sc_law_ask_equation.nd rfl (Or.inl rfl) (pe_cx c_law_built hr.toRoom (by decide) rfl pass0 (pa_cons (pe_cx c_law_grown hr.toRoom (by decide) rfl pass0 (pa_cons (pv 0) (pa_cons (pv 4) (pa_cons (pv 1) (pa_cons (pv 2) (pa_cons (pe_cx c_law_take hr.toRoom (by decide) rfl pass0 (pa_cons (pv 0) (pa_cons pe_int pa_nil))) pa_nil)))))) pa_nil)))
    (pss_cons (ps_set (i := 7) sc_law_ask_equation.nd rfl (Or.inl rfl) (pe_tup (pa_cons pe_str (pa_cons pe_str (pa_cons (pe_tup (pa_cons pe_str (pa_cons (pv 4) (pa_cons (pe_tup (pa_cons pe_str (pa_cons (pv 4) (pa_cons (pv 3) pa_nil)))) pa_nil)))) pa_nil)))))
    (pss_cons (ps_if (pt_not (pt_val (pe_cg c_law_same hr (by decide) rfl pass0 (pa_cons (pe_cx c_equation hr.toRoom (by decide) rfl pass0 (pa_cons (pv 5) (pa_cons (pv 6) pa_nil))) (pa_cons (pe_tup (pa_cons pe_str (pa_cons (pe_tup (pa_cons pe_str (pa_cons (pv 7) (pa_cons (pv 5) pa_nil)))) (pa_cons (pv 6) pa_nil)))) pa_nil)))))
    (pss_one (ps_ret pe_bl))
    pss_nil)
    (pss_one (ps_ret (pe_cg c_law_same hr (by decide) rfl pass0 (pa_cons (pe_cx c_read_formula hr.toRoom (by decide) rfl pass0 (pa_cons (pe_cx c_equation hr.toRoom (by decide) rfl pass0 (pa_cons (pv 5) (pa_cons (pv 6) pa_nil))) pa_nil)) (pa_cons (pe_tup (pa_cons pe_str (pa_cons (pv 5) (pa_cons (pv 6) pa_nil)))) pa_nil))))))))))), ?_⟩
  rw [show start ["pot", "words", "pool", "truth", "kind", "first", "other", "head"] [x0, x1, x2] = [some x0, some x1, some x2, none, none, none, none, none] from rfl]
  have ec0 : Str.ofString "named" = S [110,97,109,101,100] := S_ofs (by decide +kernel)
  have ec1 : Str.ofString "bool" = S [98,111,111,108] := S_ofs (by decide +kernel)
  have ec2 : Str.ofString "const" = S [99,111,110,115,116] := S_ofs (by decide +kernel)
  have ec3 : Str.ofString "=" = S [61] := S_ofs (by decide +kernel)
  have ec4 : Str.ofString "to" = S [116,111] := S_ofs (by decide +kernel)
  have ec5 : Str.ofString "equal" = S [101,113,117,97,108] := S_ofs (by decide +kernel)
  have ec6 : Str.ofString "app" = S [97,112,112] := S_ofs (by decide +kernel)
  rw [ec0, ec1, ec2, ec3, ec4, ec5, ec6]
  obtain ⟨a, p, q, ws, rfl, rfl, rfl, hP, hW, hL, hQ⟩ := h
  have hpa : p ≠ a := hW.ne hP
  have hqa : q ≠ a := hL.ne hP (by omega)
  try dsimp only [cxOf]
  walk_at "v"
  refine ev_go (d := bK.d) (by show Ev _ _ _ (.tuple [.str (S wNAMED), .str (S wBOOL)]); walk_at "d") (fun xb H1 s1 tb => ?_)
  walk_at "v"
  have P1 := hP.same s1
  refine ⟨_, _, rfl, a, 4, rfl, rfl, by omega, by omega, P1, fun v2 H2 hv2 P2 k2 => ?_⟩
  walk_at "v"
  have k02 := (Kb.same (a := a) s1).tr k2
  refine (hL.kb hP k02 hqa).ix hv2 (fun xk kd okd szd tk => ?_)
  walk_at "v"
  refine ⟨_, _, rfl, a, 7, rfl, rfl, by omega, by omega, P2, fun v3 H3 hv3 P3 k3 => ?_⟩
  walk_at "v"
  have k03 := k02.tr k3
  have tk3 := tk.tm (Kb.pot_tm P2 k3)
  refine ⟨_, _, _, _, _, rfl, a, p, q, kd, v3, ws, rfl, tk3, rfl, rfl, rfl, P3, hW.kb hP k03 hpa, hL.kb hP k03 hqa, okd, by omega, by omega, fun r3 G3 c3 hr3 d3 tf3 gf3 cl3 Q3 j3 => ?_⟩
  walk_at "v"
  obtain ⟨t3, rfl, ty3, okt3, lgt3, nt3⟩ := grown_ok tf3 gf3 cl3 (by omega)
  refine ⟨_, rfl, r3, t3, rfl, d3, by omega, fun u3 H4 s4 tt3 => ?_⟩
  walk_at "v"
  have P4 := Q3.same s4
  have k04 := (k03.tr j3).then s4
  have tk4 := (tk3.tm (Kb.pot_tm P3 j3)).tm (Tm.same s4)
  refine ⟨_, _, rfl, a, 7, rfl, rfl, by omega, by omega, P4, fun v5 H5 hv5 P5 k5 => ?_⟩
  walk_at "v"
  have k05 := k04.tr k5
  have tk5 := tk4.tm (Kb.pot_tm P4 k5)
  refine ⟨_, _, _, _, _, rfl, a, p, q, kd, v5, ws, rfl, tk5, rfl, rfl, rfl, P5, hW.kb hP k05 hpa, hL.kb hP k05 hqa, okd, by omega, by omega, fun r5 G5 c5 hr5 d5 tf5 gf5 cl5 Q5 j5 => ?_⟩
  walk_at "v"
  obtain ⟨t5, rfl, ty5, okt5, lgt5, nt5⟩ := grown_ok tf5 gf5 cl5 (by omega)
  refine ⟨_, rfl, r5, t5, rfl, d5, by omega, fun u5 H6 s6 tt5 => ?_⟩
  walk_at "v"
  have P6 := Q5.same s6
  have k06 := (k05.tr j5).then s6
  have tk6 := (tk5.tm (Kb.pot_tm P5 j5)).tm (Tm.same s6)
  have tm46 : Tm H4 H6 := ((Kb.pot_tm P4 k5).tr (Kb.pot_tm P5 j5)).tr (Tm.same s6)
  have tf := tt3.tm tm46
  have tb6 : TD H6 xb bK.d := ((((tb.tm (Kb.pot_tm P1 k2)).tm (Kb.pot_tm P2 k3)).tm (Kb.pot_tm P3 j3)).tm (Tm.same s4)).tm tm46
  obtain ⟨e, he⟩ : ∃ e : Gt, e = .app (.app (.tip (.cst gEQ (.to kd (.to kd bK)))) t3) t5 := ⟨_, rfl⟩
  have gke : GK (.to kd (.to kd bK)) := ⟨⟨okd, okd, bK_ok⟩, by show kd.sz + (kd.sz + 1 + 1) + 1 ≤ 100; omega⟩
  have dp3 := dep_nodes t3
  have dp5 := dep_nodes t5
  have oke : OkT 120 e := by
    rw [he]
    exact ⟨⟨⟨⟨.inr (by decide), gke⟩, okt3.1⟩, okt5.1⟩, ⟨⟨trivial, okt3.2.1⟩, okt5.2.1⟩, by show max (max 1 t3.dep + 1) t5.dep + 1 ≤ 120; omega⟩
  have ne : e.nodes ≤ 600 := by rw [he]; show 1 + t3.nodes + 1 + t5.nodes + 1 ≤ 600; omega
  refine ev_go (d := (Lf.cst gEQ (.to kd (.to kd bK))).d) (by
    show Ev _ _ _ (.tuple [.str (S wCONST), .str (S gEQ), .tuple [.str (S wTO), kd.d, .tuple [.str (S wTO), kd.d, bK.d]]])
    walk_at "d") (fun xh H7 s7 th => ?_)
  walk_at "v"
  have tt5' := tt5.tm (Tm.same s7)
  have tf' := tf.tm (Tm.same s7)
  refine ⟨_, _, rfl, t3, t5, kd, tf', tt5', by omega, ty3, fun v8 H8 s8 t8 => ?_⟩
  walk_at "v"
  have th8 := th.tm (Tm.same s8)
  have ta8 := tf'.tm (Tm.same s8)
  have tb8 := tt5'.tm (Tm.same s8)
  refine ev_go (d := (upT e).d) (by
    rw [he]
    show Ev _ _ _ (.tuple [.str (S wAPP), .tuple [.str (S wAPP), (Lf.cst gEQ (.to kd (.to kd bK))).d, (upT t3).d], (upT t5).d])
    walk_at "d") (fun x9 H9 s9 t9 => ?_)
  walk_at "v"
  refine same_T (r := e) (by rw [he]; exact t8.tm (Tm.same s9)) t9 (shw_T (oke.mono (by omega)) (by omega)) ?_
  walk_at "v"
  have s79 := s8.tr s9
  refine ⟨_, _, rfl, t3, t5, kd, tf'.tm (Tm.same s79), tt5'.tm (Tm.same s79), by omega, ty3, fun v10 H10 s10 t10 => ?_⟩
  walk_at "v"
  rw [← he] at t10
  have lge : lgT e := by rw [he]; exact ⟨⟨.inr (.eq kd), lgt3⟩, lgt5⟩
  refine ⟨_, rfl, e, t10, oke.1, lge, by omega, fun v11 H11 s11 t11 => ?_⟩
  walk_at "v"
  have er : rdT e = .tuple [.str (S [101,113,117,97,108]), (upT t3).d, (upT t5).d] := by
    rw [he]
    show rdH (.tip (.cst gEQ (.to kd (.to kd bK)))) [t3, t5] _ = _
    rw [rdH_yes (by decide) (by rw [rd_6.2]; rfl), rd_6.1]; rfl
  obtain ⟨_, swe⟩ := shw_rd oke ne
  rw [er] at t11 swe
  have s711 := (s79.tr s10).tr s11
  have ta11 := tf'.tm (Tm.same s711)
  have tb11 := tt5'.tm (Tm.same s711)
  refine ev_go (d := .tuple [.str (S [101,113,117,97,108]), (upT t3).d, (upT t5).d]) (by walk_at "d") (fun x12 H12 s12 t12 => ?_)
  walk_at "v"
  refine ⟨_, _, rfl, _, t11.tm (Tm.same s12), t12, swe, ?_⟩
  have sAll := (s7.tr s711).tr s12
  exact hQ H12 (P6.same sAll) (k06.then sAll)
end
end K03

namespace K03
open PySem PySem.Spec PyProof.Rows L2 SX K02 K01
local macro_rules | `(tactic| walk_at "w1") => `(tactic| (first
  | with_reducible refine w_seq ?_ | with_reducible refine w_asgN ?_ | with_reducible refine w_c ?_
  | ((with_reducible refine' w_var ?wv ?_); (case wv => exact rfl))
  | with_reducible refine w_op ?_ | with_reducible refine w_un ?_ | with_reducible refine w_next ?_ | with_reducible refine w_brk ?_ | with_reducible refine w_cnt ?_
  | with_reducible refine w_ifS ?_ | with_reducible refine w_if ?_ | with_reducible refine w_test ?_ | with_reducible refine w_tB ?_ | with_reducible refine w_bl ?_ | with_reducible refine w_blI ?_
  | with_reducible refine w_and ?_ | with_reducible refine w_or ?_ | with_reducible refine w_not ?_ | with_reducible refine w_andV ?_ | with_reducible refine w_orV ?_ | with_reducible refine w_notV ?_
  | with_reducible refine w_nil ?_ | with_reducible refine w_cons ?_ | with_reducible refine w_cb ?_ | with_reducible refine w_call ?_ | with_reducible refine w_callS ?_ | with_reducible refine w_chain ?_
  | with_reducible refine w_tupN ?_ | with_reducible refine w_lstN ?_ | with_reducible refine w_sl ?_ | with_reducible refine w_noPart ?_ | with_reducible refine w_part ?_ | with_reducible refine w_partI ?_
  | with_reducible refine w_ret ?_ | with_reducible refine w_retN ?_ | with_reducible refine w_drop ?_ | with_reducible refine w_asg ?_ | with_reducible refine w_gSub ?_
  | ((with_reducible refine' w_aug ?wv ?_); (case wv => exact rfl)) | with_reducible refine w_ipI ?_
  | with_reducible refine w_addI ?_ | with_reducible refine w_subI ?_ | with_reducible refine w_ltI ?_ | with_reducible refine w_leI ?_ | with_reducible refine w_gtI ?_ | with_reducible refine w_geI ?_
  | with_reducible refine w_eqI ?_ | with_reducible refine w_neI ?_ | with_reducible refine w_eqT ?_ | with_reducible refine w_neT ?_ | with_reducible refine w_inS ?_ | with_reducible refine w_ninS ?_
  | with_reducible refine w_absI ?_ | with_reducible refine w_intI ?_ | with_reducible refine w_maxI ?_ | with_reducible refine w_minI ?_
  | with_reducible refine w_for ?_ | with_reducible refine w_iR1 ?_ | with_reducible refine w_iR2 ?_ | with_reducible refine w_iStr ?_ | with_reducible refine w_strI ?_ | with_reducible refine w_iList ?_ | with_reducible refine w_iTup ?_
  | with_reducible refine w_bm ?_ | with_reducible refine w_bm0 ?_ | with_reducible refine w_t ?_ | with_reducible refine w_f ?_ | with_reducible refine w_nt ?_ | with_reducible refine w_nx ?_ | with_reducible refine w_rt ?_ | with_reducible refine w_bk ?_ | with_reducible refine w_ct ?_ | with_reducible refine w_nf ?_ | with_reducible refine w_lc ?_ | with_reducible refine w_yes ?_ | with_reducible refine w_neg ?_ | with_reducible refine w_intB ?_ | with_reducible refine w_fld ?_ | with_reducible refine w_setf ?_ | with_reducible refine w_faug ?_ | with_reducible refine w_meth ?_ | with_reducible refine w_bmS ?_ | with_reducible refine w_start ?_ | with_reducible refine w_revL ?_ | with_reducible refine w_iR3 ?_))
local macro_rules | `(tactic| walk_at "w") => `(tactic| (repeat (first | walk_at "w1" | dsimp (config := { proj := false }) only [List.set_cons_zero, List.set_cons_succ])))
section
variable {w : World} [Lit] {mg : Str → Option Value} {base : Heap}
local macro_rules | `(tactic| walk_at "v1") => `(tactic| (first
  | with_reducible refine w_seq ?_ | with_reducible refine w_asgN ?_ | with_reducible refine w_c ?_
  | ((with_reducible refine' w_var ?wv ?_); (case wv => exact rfl))
  | with_reducible refine w_op ?_ | with_reducible refine w_un ?_ | with_reducible refine w_next ?_ | with_reducible refine w_brk ?_ | with_reducible refine w_cnt ?_
  | with_reducible refine w_ifS ?_ | with_reducible refine w_if ?_ | with_reducible refine w_test ?_ | with_reducible refine w_tB ?_ | with_reducible refine w_bl ?_ | with_reducible refine w_blI ?_
  | with_reducible refine w_and ?_ | with_reducible refine w_or ?_ | with_reducible refine w_not ?_ | with_reducible refine w_andV ?_ | with_reducible refine w_orV ?_ | with_reducible refine w_notV ?_
  | with_reducible refine w_nil ?_ | with_reducible refine w_cons ?_ | with_reducible refine w_cb ?_ | with_reducible refine w_call ?_ | with_reducible refine w_callS ?_ | with_reducible refine w_chain ?_
  | with_reducible refine w_sl ?_ | with_reducible refine w_noPart ?_ | with_reducible refine w_part ?_ | with_reducible refine w_partI ?_
  | with_reducible refine w_ret ?_ | with_reducible refine w_retN ?_ | with_reducible refine w_drop ?_ | with_reducible refine w_asg ?_ | with_reducible refine w_gSub ?_
  | ((with_reducible refine' w_aug ?wv ?_); (case wv => exact rfl)) | with_reducible refine w_ipI ?_
  | with_reducible refine w_addI ?_ | with_reducible refine w_subI ?_ | with_reducible refine w_ltI ?_ | with_reducible refine w_leI ?_ | with_reducible refine w_gtI ?_ | with_reducible refine w_geI ?_
  | with_reducible refine w_eqI ?_ | with_reducible refine w_neI ?_ | with_reducible refine w_eqT ?_ | with_reducible refine w_neT ?_ | with_reducible refine w_inS ?_ | with_reducible refine w_ninS ?_
  | with_reducible refine w_absI ?_ | with_reducible refine w_intI ?_ | with_reducible refine w_maxI ?_ | with_reducible refine w_minI ?_
  | with_reducible refine w_for ?_ | with_reducible refine w_iR1 ?_ | with_reducible refine w_iR2 ?_ | with_reducible refine w_iStr ?_ | with_reducible refine w_strI ?_ | with_reducible refine w_iList ?_ | with_reducible refine w_iTup ?_
  | with_reducible refine w_bm ?_ | with_reducible refine w_bm0 ?_ | with_reducible refine w_t ?_ | with_reducible refine w_f ?_ | with_reducible refine w_nt ?_ | with_reducible refine w_nx ?_ | with_reducible refine w_rt ?_ | with_reducible refine w_bk ?_ | with_reducible refine w_ct ?_ | with_reducible refine w_nf ?_ | with_reducible refine w_lc ?_ | with_reducible refine w_yes ?_ | with_reducible refine w_neg ?_ | with_reducible refine w_intB ?_ | with_reducible refine w_fld ?_ | with_reducible refine w_setf ?_ | with_reducible refine w_faug ?_ | with_reducible refine w_meth ?_ | with_reducible refine w_bmS ?_ | with_reducible refine w_start ?_ | with_reducible refine w_revL ?_ | with_reducible refine w_iR3 ?_))
local macro_rules | `(tactic| walk_at "v") => `(tactic| (repeat (first | walk_at "v1" | dsimp (config := { proj := false }) only [List.set_cons_zero, List.set_cons_succ])))
local macro_rules | `(tactic| walk_at "d") => `(tactic| (repeat (first | exact eva_nil | refine eva_cons ?_ ?_ | exact ev_str | exact ev_int | exact ev_neg | refine ev_tup ?_ | exact ev_var rfl (.str _) | exact ev_var rfl (.int _) | (refine ev_var rfl ?_; assumption))))


theorem abs_nodes (w : List Nat) (k : Kd) : ∀ (t : Gt) (l : Nat), (subT (absL w k) t l).nodes = t.nodes
  | .app f a, l => by
    show (subT (absL w k) f l).nodes + (subT (absL w k) a l).nodes + 1 = _
    rw [abs_nodes w k f, abs_nodes w k a]; rfl
  | .lam j b, l => by
    show (subT (absL w k) b (l + 1)).nodes + 1 = _
    rw [abs_nodes w k b]; rfl
  | .tip x, l => by
    show (absL w k l x).nodes = 1
    unfold absL; cases isV w k x <;> rfl
theorem abs_ok (w : List Nat) (k : Kd) {t : Gt} {n : Nat} (h : OkT n t) (hn : t.nodes ≤ n) (h9 : n ≤ 900) : OkT n (subT (absL w k) t 0) ∧ (subT (absL w k) t 0).nodes = t.nodes := by
  have e := abs_nodes w k t 0
  have d := dep_nodes (subT (absL w k) t 0)
  have d2 := h.2.2
  exact ⟨⟨gok_sub (fun l x h => absL_gok h) t 0 h.1, smB_sub 999 (fun l x hl hx => absL_sm (by omega) hx) t 0 h.2.1 (by omega), by omega⟩, e⟩
theorem abs_rows (w : List Nat) (k : Kd) (t : Gt) : subC (absC w k) (rows t) [0] = rows (subT (absL w k) t 0) := by
  obtain ⟨h1, h2⟩ := rows_ok t
  obtain ⟨g1, g2⟩ := fo_sub1 (f := absC w k) (g := absL w k) (fun l x => absC_ok w k l x) h1 h2
  exact rows_of g1 g2
theorem rows_gok : ∀ {t : Gt}, t.gok → ∀ r ∈ rows t, r.gok
  | .app f a, h, r, hr => by
    rcases List.mem_cons.mp hr with rfl | hr
    · trivial
    rcases List.mem_append.mp hr with hr | hr
    · exact rows_gok h.1 r hr
    · exact rows_gok h.2 r hr
  | .lam k b, h, r, hr => by
    rcases List.mem_cons.mp hr with rfl | hr
    · exact h.1
    · exact rows_gok h.2 r hr
  | .tip x, h, r, hr => by rw [List.mem_singleton.mp hr]; exact h
theorem row_var {r : G2} (h : gw r = wVAR) : ∃ w k, r = .tip (.var w k) := by
  cases r with
  | app => exact absurd (show wAPP = wVAR from h) (by decide)
  | lam j => exact absurd (show wLAM = wVAR from h) (by decide)
  | tip x =>
    cases x with
    | var w k => exact ⟨w, k, rfl⟩
    | cst w k => exact absurd (show wCONST = wVAR from h) (by decide)
    | bnd i => exact absurd (show wBOUND = wVAR from h) (by decide)
theorem gd_nil (l : List G2) : (gd l ≠ []) ↔ l ≠ [] := by
  constructor
  · intro h z; rw [z] at h; exact h rfl
  · intro h z
    have := congrArg List.length z
    rw [gd_len] at this
    exact h (List.length_eq_zero_iff.mp this)
def sp_law_ask_quantified : Sp := sp3 fun x y z H Q _ => ∃ (a p q : Addr) (ws : List (List Nat)), x = .ref a ∧ y = .ref p ∧ z = .ref q ∧ Pot a H ∧ NmW ws H p ∧ PoL H q ∧ ∀ H', Pot a H' → Kb a H H' → Q (.bl true) H'
theorem ok_law_ask_quantified (T : Txt w K mg) {fd : FuncData} (F : Fn_law_ask_quantified K fd) (hm : mg "_law_ask_quantified" = some (.ref (He.ga K "_law_ask_quantified"))) (c_law_take : CalX P w K mg base CX0 1 "_law_take" sp_law_take)(c_law_grown : CalX P w K mg base CX0 3 "_law_grown" sp_law_grown)(c_law_built : CalX P w K mg base CX0 2 "_law_built" sp_built)(c_law_same : CalG P w K mg base CX0 1 "_law_same" sp_law_same)(c_law_abstracted : CalX P w K mg base CX0 2 "_law_abstracted" sp_law_abstracted)(c_for_all : CalX P w K mg base CX0 135 "for_all" sp_for_all)(c_for_some : CalX P w K mg base CX0 135 "for_some" sp_for_some) : CalG P w K mg base CX0 136 "_law_ask_quantified" sp_law_ask_quantified := by
  refine calg0 (k := 135) F hm sc_law_ask_quantified (b_law_ask_quantified F) (fun _ _ _ _ h => sp3_len h) (fun cdv A outer s H vs Q E hr h => ?_)
  obtain ⟨x0, x1, x2, rfl, h⟩ := h
  refine ⟨_, (pss_cons (ps_set (i := 3) sc_law_ask_quantified.nd rfl (Or.inl rfl) (pe_tup (pa_cons pe_str (pa_cons pe_str pa_nil))))
    (pss_cons (ps_set (i := 4) sc_law_ask_quantified.nd rfl (Or.inl rfl) (pe_cx c_law_grown hr.toRoom (by decide) rfl pass0 (pa_cons (pv 0) (pa_cons (pv 3) (pa_cons (pv 1) (pa_cons (pv 2) (pa_cons (pe_cx c_law_take hr.toRoom (by decide) rfl pass0 (pa_cons (pv 0) (pa_cons pe_int pa_nil))) pa_nil)))))))
    (pss_cons (ps_set (i := 5) sc_law_ask_quantified.nd rfl (Or.inl rfl) (pe_ix ix_list (pv 1) (pe_cx c_law_take hr.toRoom (by decide) rfl pass0 (pa_cons (pv 0) (pa_cons pe_int pa_nil))) (fun _ _ => rfl)))
    (pss_cons (ps_set (i := 6) sc_law_ask_quantified.nd rfl (Or.inl rfl) (pe_ix ix_list (pv 2) (pe_cx c_law_take hr.toRoom (by decide) rfl pass0 (pa_cons (pv 0) (pa_cons pe_int pa_nil))) (fun _ _ => rfl)))
    (pss_cons (ps_setLc (i := 8) (own := [("row", 7)]) (g := gName 7) (by rfl) sc_law_ask_quantified.nd rfl rfl (sw_true rfl rfl rfl (by decide +kernel)) (pi_list (pv 4)) (blkOk_by (own := [("row", 7)]) (N := ["pot", "words", "pool", "truth", "code", "word", "kind", "row", "known", "due", "whole", "term"]) (sc := defScope s_law_ask_quantified) (by decide +kernel)) (fun _ _ _ _ _ => pg_name (i := 7) sc_law_ask_quantified.nd rfl (Or.inl rfl)) (fun _ _ _ _ _ => (pts_one (pt_cmpR op_eq (pe_ix (r := rIxT K) ix_tup (pv 7) pe_int (fun _ _ => rfl)) pe_str (nomark _)))) (fun _ _ _ _ _ => (pv 7)))
    (Evl.pss_cut (ps_if (PW.pt (pw_and (pt_truth (pv 8) (by intro _; rfl)) (pw_and1 (pt_cmpR op_ne (pe_cx c_law_take hr.toRoom (by decide) rfl pass0 (pa_cons (pv 0) (pa_cons pe_int pa_nil))) pe_int (nomark _)))))
    (pss_cons (ps_set (i := 7) sc_law_ask_quantified.nd rfl (Or.inl rfl) (pe_ix ix_list (pv 8) (pe_cx c_law_take hr.toRoom (by decide) rfl pass0 (pa_cons (pv 0) (pa_cons (pe_callB call_lenQ (by rfl) T.f_len PySem.boot_len (pa_cons (pv 8) pa_nil)) pa_nil))) (fun _ _ => rfl)))
    (pss_cons (ps_set (i := 5) sc_law_ask_quantified.nd rfl (Or.inl rfl) (pe_ix ix_tup (pv 7) pe_int (fun _ _ => rfl)))
    (pss_one (ps_set (i := 6) sc_law_ask_quantified.nd rfl (Or.inl rfl) (pe_ix ix_tup (pv 7) pe_int (fun _ _ => rfl))))))
    pss_nil)
    (pss_cons (ps_set (i := 9) sc_law_ask_quantified.nd rfl (Or.inl rfl) (pe_tup (pa_cons pe_str (pa_cons (pv 6) (pa_cons (pe_cx c_law_built hr.toRoom (by decide) rfl pass0 (pa_cons (pe_cx c_law_abstracted hr.toRoom (by decide) rfl pass0 (pa_cons (pv 4) (pa_cons (pv 5) (pa_cons (pv 6) pa_nil)))) pa_nil)) pa_nil)))))
    (pss_cons (ps_set (i := 10) sc_law_ask_quantified.nd rfl (Or.inl rfl) (pe_tup (pa_cons pe_str (pa_cons (pe_tup (pa_cons pe_str (pa_cons (pv 6) (pa_cons (pv 3) pa_nil)))) (pa_cons (pv 3) pa_nil)))))
    (pss_cons (ps_set (i := 11) sc_law_ask_quantified.nd rfl (Or.inl rfl) (pe_cx c_law_built hr.toRoom (by decide) rfl pass0 (pa_cons (pv 4) pa_nil)))
    (pss_cons (ps_if (pt_not (pt_val (pe_cg c_law_same hr (by decide) rfl pass0 (pa_cons (pe_cx c_for_all hr.toRoom (by decide) rfl pass0 (pa_cons (pv 5) (pa_cons (pv 6) (pa_cons (pv 11) pa_nil)))) (pa_cons (pe_tup (pa_cons pe_str (pa_cons (pe_tup (pa_cons pe_str (pa_cons pe_str (pa_cons (pv 10) pa_nil)))) (pa_cons (pv 9) pa_nil)))) pa_nil)))))
    (pss_one (ps_ret pe_bl))
    pss_nil)
    (pss_one (ps_ret (pe_cg c_law_same hr (by decide) rfl pass0 (pa_cons (pe_cx c_for_some hr.toRoom (by decide) rfl pass0 (pa_cons (pv 5) (pa_cons (pv 6) (pa_cons (pv 11) pa_nil)))) (pa_cons (pe_tup (pa_cons pe_str (pa_cons (pe_tup (pa_cons pe_str (pa_cons pe_str (pa_cons (pv 10) pa_nil)))) (pa_cons (pv 9) pa_nil)))) pa_nil))))))))))))))), ?_⟩
  rw [show start ["pot", "words", "pool", "truth", "code", "word", "kind", "row", "known", "due", "whole", "term"] [x0, x1, x2] = [some x0, some x1, some x2, none, none, none, none, none, none, none, none, none] from rfl]
  have ec0 : Str.ofString "named" = S [110,97,109,101,100] := S_ofs (by decide +kernel)
  have ec1 : Str.ofString "bool" = S [98,111,111,108] := S_ofs (by decide +kernel)
  have ec2 : Str.ofString "lam" = S [108,97,109] := S_ofs (by decide +kernel)
  have ec3 : Str.ofString "to" = S [116,111] := S_ofs (by decide +kernel)
  have ec4 : Str.ofString "app" = S [97,112,112] := S_ofs (by decide +kernel)
  have ec5 : Str.ofString "var" = S [118,97,114] := S_ofs (by decide +kernel)
  have ec6 : Str.ofString "const" = S [99,111,110,115,116] := S_ofs (by decide +kernel)
  have ec7 : Str.ofString "some" = S [115,111,109,101] := S_ofs (by decide +kernel)
  have ec8 : Str.ofString "all" = S [97,108,108] := S_ofs (by decide +kernel)
  rw [ec0, ec1, ec2, ec3, ec4, ec5, ec6, ec7, ec8]
  obtain ⟨a, p, q, ws, rfl, rfl, rfl, hP, hW, hL, hQ⟩ := h
  have hpa : p ≠ a := hW.ne hP
  have hqa : q ≠ a := hL.ne hP (by omega)
  try dsimp only [cxOf]
  walk_at "v"
  refine ev_go (d := bK.d) (by show Ev _ _ _ (.tuple [.str (S wNAMED), .str (S wBOOL)]); walk_at "d") (fun xb H1 s1 tb => ?_)
  walk_at "v"
  have P1 := hP.same s1
  refine ⟨_, _, rfl, a, 10, rfl, rfl, by omega, by omega, P1, fun v2 H2 hv2 P2 k2 => ?_⟩
  walk_at "v"
  have k02 := (Kb.same (a := a) s1).tr k2
  have tb2 := tb.tm (Kb.pot_tm P1 k2)
  refine ⟨_, _, _, _, _, rfl, a, p, q, bK, v2, ws, rfl, tb2, rfl, rfl, rfl, P2, hW.kb hP k02 hpa, hL.kb hP k02 hqa, bK_ok, by decide, by omega, fun r H3 c hr d3 tf gf cl P3 k3 => ?_⟩
  walk_at "v"
  obtain ⟨t, rfl, ty, okt, lgt, nt⟩ := grown_ok (n := 40) tf gf (by omega) (by omega)
  have k03 := k02.tr k3
  have tb3 := tb2.tm (Kb.pot_tm P2 k3)
  have hra : r ≠ a := fun z => by
    obtain ⟨_, e⟩ := d3.lst
    rw [z] at hr
    obtain ⟨_, _, _, e2, _⟩ := P2
    rw [hr] at e2; cases e2
  refine ⟨_, _, rfl, a, 4, rfl, rfl, by omega, by omega, P3, fun v4 H4 hv4 P4 k4 => ?_⟩
  walk_at "v"
  have k04 := k03.tr k4
  have tb4 := tb3.tm (Kb.pot_tm P3 k4)
  have d4 := DLkb d3 P3 k4 hra
  refine (hW.kb hP k04 hpa).ix hv4 (fun w0 nw0 => ?_)
  walk_at "v"
  refine ⟨_, _, rfl, a, 4, rfl, rfl, by omega, by omega, P4, fun v5 H5 hv5 P5 k5 => ?_⟩
  walk_at "v"
  have k05 := k04.tr k5
  have tb5 := tb4.tm (Kb.pot_tm P4 k5)
  have d5 := DLkb d4 P4 k5 hra
  refine (hL.kb hP k05 hqa).ix hv5 (fun xk kd okd szd tk => ?_)
  walk_at "v"
  obtain ⟨xs, e5, t5⟩ := d5
  have lx : xs.length = (rows t).length := by rw [t5.len, gd_len]
  have hlr : (rows t).length ≤ 40 := by rw [rows_len]; exact nt
  have d5 : DL H5 r (gd (rows t)) := ⟨xs, e5, t5⟩
  refine w_lstI (SqL.of e5) ?_
  intro D hD
  refine lc_list (xs := xs) (fun i H' => Same H5 H' ∧ ∃ kn : List G2, DL H' D (gd kn) ∧ kn.length ≤ i ∧ ∀ r ∈ kn, ∃ w k, r = .tip (.var w k) ∧ isName w = true ∧ GK k ∧ k.sz ≤ 55)
    ⟨same_upd hD, [], ⟨[], upd_same, .nil⟩, Nat.zero_le _, fun r hr => absurd hr List.not_mem_nil⟩ (fun i H' _ h => SqL.of (h.1 _ _ e5)) ?_ ?_
  · rintro i x H' hx ⟨sm, kn, dk, hkl, hk⟩
    obtain ⟨d, ed, td⟩ := (t5.tm (Tm.same sm)).get' hx
    have hi : i < (rows t).length := by rw [← lx]; exact (List.getElem?_eq_some_iff.mp hx).1
    have ei := List.getElem?_eq_getElem hi
    obtain ⟨gi1, gi2⟩ := gf _ (List.getElem_mem hi)
    generalize (rows t)[i] = rr at ei gi1 gi2
    rw [gd_at ei] at ed
    cases ed
    have td0 := td
    obtain ⟨rest, er⟩ := gw_d rr
    rw [er] at td
    dsimp only [gName]
    refine ⟨rfl, ?_⟩
    walk_at "v"
    refine t_ixS (n := 0) td rfl ?_
    walk_at "v"
    refine w_dec (fun he => ?_) (fun _ => ?_)
    · obtain ⟨w, k, rfl⟩ := row_var he
      walk_at "v"
      obtain ⟨ys, e, tt⟩ := dk
      have ly := tt.len
      rw [gd_len] at ly
      have ex : Ex D H' (upd H' D (.lst (ys ++ [x]))) := fun b hb => upd_ne hb
      refine ⟨_, e, szl (show _ ≤ 100000 by omega), ⟨sm.ex hD ex, kn ++ [.tip (.var w k)], ⟨_, upd_same, ?_⟩, by rw [List.length_append]; show kn.length + 1 ≤ i + 1; omega, fun r hr => ?_⟩⟩
      · rw [gd_snoc]
        exact (tt.tm (Tm.ex e ex)).snoc (td0.tm (Tm.ex e ex))
      · rcases List.mem_append.mp hr with hr | hr
        · exact hk r hr
        · rw [List.mem_singleton.mp hr]; exact ⟨w, k, rfl, gi1.1, gi1.2, gi2.1⟩
    · exact ⟨sm, kn, dk, by omega, hk⟩
  rintro H6 ⟨s6, kn, dk, hkl, hk⟩
  walk_at "v"
  have P6 := P5.same s6
  have k06 := k05.then s6
  have hDa : D ≠ a := P5.ne hD
  have hDr : r ≠ D := fun z => by rw [← z, e5] at hD; cases hD
  have tb6 := tb5.tm (Tm.same s6)
  have tk6 := tk.tm (Tm.same s6)
  have d6 := d5.same s6
  have gkd : GK kd := ⟨okd, by omega⟩
  rw [lx] at hkl
  refine w_mid (fun σ H' => ∃ (w : List Nat) (k : Kd) (xk' : V) (v7 : Option V), σ = [some (.ref a), some (.ref p), some (.ref q), some xb, some (.ref r), some (.str (S w)), some xk', v7, some (.ref D), none, none, none] ∧ isName w = true ∧ TD H' xk' k.d ∧ GK k ∧ k.sz ≤ 55 ∧ Pot a H' ∧ Kb a H H' ∧ TD H' xb bK.d ∧ DL H' r (gd (rows t))) ?_ ?_
  · walk_at "v"
    refine l_truth dk ?_
    by_cases hkn : kn = []
    · rw [decide_eq_false (fun z => (gd_nil kn).mp z hkn)]
      walk_at "v"
      exact ⟨w0, kd, xk, _, rfl, nw0.1, tk6, gkd, by omega, P6, k06, tb6, d6⟩
    rw [decide_eq_true ((gd_nil kn).mpr hkn)]
    walk_at "v"
    refine ⟨_, _, rfl, a, 4, rfl, rfl, by omega, by omega, P6, fun v7 H7 hv7 P7 k7 => ?_⟩
    walk_at "v"
    have k07 := k06.tr k7
    have tm7 := Kb.pot_tm P6 k7
    refine w_ndec (fun h1 => ?_) (fun h1 => ?_)
    · walk_at "v"
      have dk7 := DLkb dk P6 k7 hDa
      refine l_len dk7 ?_
      rw [gd_len]
      walk_at "v"
      have hkp : 0 < kn.length := by cases kn with | nil => exact absurd rfl hkn | cons _ _ => exact Nat.succ_pos _
      refine ⟨_, _, rfl, a, kn.length, rfl, rfl, hkp, by omega, P7, fun v8 H8 hv8 P8 k8 => ?_⟩
      walk_at "v"
      have k08 := k07.tr k8
      have tm8 := Kb.pot_tm P7 k8
      have dk8 := DLkb dk7 P7 k8 hDa
      obtain ⟨rr, err⟩ : ∃ rr, kn[v8]? = some rr := ⟨_, List.getElem?_eq_getElem hv8⟩
      refine l_ix (n := v8) dk8 (gd_at err) (fun y ty => ?_)
      obtain ⟨w, k, rfl, hw, hgk, hsz⟩ := hk _ (List.mem_of_getElem? err)
      have ty : TD H8 y (.tuple [.str (S wVAR), .str (S w), k.d]) := ty
      walk_at "v"
      refine t_ixS (n := 1) ty rfl ?_
      walk_at "v"
      refine t_ix (n := 2) ty rfl (fun y2 ty2 => ?_)
      walk_at "v"
      exact ⟨w, k, y2, _, rfl, hw, ty2, hgk, hsz, P8, k08, (tb6.tm tm7).tm tm8, DLkb (DLkb d6 P6 k7 hra) P7 k8 hra⟩
    · walk_at "v"
      exact ⟨w0, kd, xk, _, rfl, nw0.1, tk6.tm tm7, gkd, by omega, P7, k07, tb6.tm tm7, DLkb d6 P6 k7 hra⟩
  rintro σ G ⟨w, k, xk', v7, rfl, hw, tkG, hgk, hsz, PG, kG, tbG, dG⟩
  walk_at "v"
  obtain ⟨ro1, ro2⟩ := rows_ok t
  obtain ⟨okb, enb⟩ := abs_ok w k okt nt (by omega)
  obtain ⟨b, hb⟩ : ∃ b, b = subT (absL w k) t 0 := ⟨_, rfl⟩
  rw [← hb] at okb enb
  refine w_tupN ?_
  walk_at "v"
  refine ⟨_, _, _, rfl, r, rows t, w, k, rfl, rfl, dG, tkG, ro1, by rw [ro2]; rfl, by omega, rows_gok okt.1, hw, hgk, fun q8 H8 hq8 s8 d8 => ?_⟩
  walk_at "v"
  rw [abs_rows, ← hb] at d8
  refine ⟨_, rfl, q8, b, rfl, d8, by omega, fun v9 H9 s9 t9 => ?_⟩
  walk_at "v"
  have s89 := s8.tr s9
  refine t_new (ds := [.str (S wLAM), k.d, (upT b).d]) (.cons (.str _) (.cons (tkG.tm (Tm.same s89)) (.cons t9 .nil))) (fun pd H10 hpd s10 t10 => ?_)
  walk_at "v"
  have s810 := s89.tr s10
  have tk10 := tkG.tm (Tm.same s810)
  have tb10 := tbG.tm (Tm.same s810)
  refine ev_go (d := Kd.d (.to (.to k bK) bK)) (by
    show Ev _ _ _ (.tuple [.str (S wTO), .tuple [.str (S wTO), k.d, bK.d], bK.d])
    walk_at "d") (fun xw H11 s11 t11 => ?_)
  walk_at "v"
  have s811 := s810.tr s11
  refine ⟨_, rfl, r, t, rfl, dG.same s811, by omega, fun xt H12 s12 t12 => ?_⟩
  walk_at "v"
  have s812 := s811.tr s12
  have td12 : TD H12 (.ref pd) (.tuple [.str (S wLAM), k.d, (upT b).d]) := t10.tm (Tm.same (s11.tr s12))
  have dpb := dep_nodes b
  refine ⟨_, _, _, rfl, w, k, t, rfl, tkG.tm (Tm.same s812), t12, okt.1, by have := okt.2.2; omega, hw, hgk, fun u20 G20 r20 tu20 => ?_⟩
  walk_at "v"
  have tw20 := (t11.tm (Tm.same s12)).tm (Tm.same (r20))
  have td20 := td12.tm (Tm.same (r20))
  refine ev_go (d := (upT (.app (.tip (.cst gALL (.to (.to k bK) bK))) (.lam k b))).d) (by
    show Ev _ _ _ (.tuple [.str (S wAPP), .tuple [.str (S wCONST), .str (S gALL), Kd.d (.to (.to k bK) bK)], .tuple [.str (S wLAM), k.d, (upT b).d]])
    walk_at "d") (fun y20 K20 q20 ty20 => ?_)
  walk_at "v"
  have ok20 : OkT 130 (.app (.tip (.cst gALL (.to (.to k bK) bK))) (.lam k b)) := ⟨⟨⟨.inr (by decide), ⟨⟨hgk.1, bK_ok⟩, bK_ok⟩, by show k.sz + 1 + 1 + 1 + 1 ≤ 100; omega⟩, hgk, okb.1⟩, ⟨trivial, okb.2.1⟩, by show max 1 (b.dep + 1) + 1 ≤ 130; omega⟩
  refine same_T (r := .app (.tip (.cst gALL (.to (.to k bK) bK))) (.lam k b)) (by rw [hb]; exact tu20.tm (Tm.same q20)) ty20 (shw_T ok20 (by show 1 + (b.nodes + 1) + 1 ≤ 700; omega)) ?_
  walk_at "v"
  have s20 := r20.tr q20
  refine ⟨_, _, _, rfl, w, k, t, rfl, tkG.tm (Tm.same (s812.tr s20)), t12.tm (Tm.same s20), okt.1, by have := okt.2.2; omega, hw, hgk, fun u21 G21 r21 tu21 => ?_⟩
  walk_at "v"
  have tw21 := (t11.tm (Tm.same s12)).tm (Tm.same (s20.tr (r21)))
  have td21 := td12.tm (Tm.same (s20.tr (r21)))
  refine ev_go (d := (upT (.app (.tip (.cst gSOME (.to (.to k bK) bK))) (.lam k b))).d) (by
    show Ev _ _ _ (.tuple [.str (S wAPP), .tuple [.str (S wCONST), .str (S gSOME), Kd.d (.to (.to k bK) bK)], .tuple [.str (S wLAM), k.d, (upT b).d]])
    walk_at "d") (fun y21 K21 q21 ty21 => ?_)
  walk_at "v"
  have ok21 : OkT 130 (.app (.tip (.cst gSOME (.to (.to k bK) bK))) (.lam k b)) := ⟨⟨⟨.inr (by decide), ⟨⟨hgk.1, bK_ok⟩, bK_ok⟩, by show k.sz + 1 + 1 + 1 + 1 ≤ 100; omega⟩, hgk, okb.1⟩, ⟨trivial, okb.2.1⟩, by show max 1 (b.dep + 1) + 1 ≤ 130; omega⟩
  refine same_T (r := .app (.tip (.cst gSOME (.to (.to k bK) bK))) (.lam k b)) (by rw [hb]; exact tu21.tm (Tm.same q21)) ty21 (shw_T ok21 (by show 1 + (b.nodes + 1) + 1 ≤ 700; omega)) ?_
  have sAll := (s812.tr s20).tr (r21.tr q21)
  exact hQ K21 (PG.same sAll) (kG.then sAll)
end
end K03

namespace K03
open PySem PySem.Spec PyProof.Rows L2 SX K02 K01
local macro_rules | `(tactic| walk_at "w1") => `(tactic| (first
  | with_reducible refine w_seq ?_ | with_reducible refine w_asgN ?_ | with_reducible refine w_c ?_
  | ((with_reducible refine' w_var ?wv ?_); (case wv => exact rfl))
  | with_reducible refine w_op ?_ | with_reducible refine w_un ?_ | with_reducible refine w_next ?_ | with_reducible refine w_brk ?_ | with_reducible refine w_cnt ?_
  | with_reducible refine w_ifS ?_ | with_reducible refine w_if ?_ | with_reducible refine w_test ?_ | with_reducible refine w_tB ?_ | with_reducible refine w_bl ?_ | with_reducible refine w_blI ?_
  | with_reducible refine w_and ?_ | with_reducible refine w_or ?_ | with_reducible refine w_not ?_ | with_reducible refine w_andV ?_ | with_reducible refine w_orV ?_ | with_reducible refine w_notV ?_
  | with_reducible refine w_nil ?_ | with_reducible refine w_cons ?_ | with_reducible refine w_cb ?_ | with_reducible refine w_call ?_ | with_reducible refine w_callS ?_ | with_reducible refine w_chain ?_
  | with_reducible refine w_tupN ?_ | with_reducible refine w_lstN ?_ | with_reducible refine w_sl ?_ | with_reducible refine w_noPart ?_ | with_reducible refine w_part ?_ | with_reducible refine w_partI ?_
  | with_reducible refine w_ret ?_ | with_reducible refine w_retN ?_ | with_reducible refine w_drop ?_ | with_reducible refine w_asg ?_ | with_reducible refine w_gSub ?_
  | ((with_reducible refine' w_aug ?wv ?_); (case wv => exact rfl)) | with_reducible refine w_ipI ?_
  | with_reducible refine w_addI ?_ | with_reducible refine w_subI ?_ | with_reducible refine w_ltI ?_ | with_reducible refine w_leI ?_ | with_reducible refine w_gtI ?_ | with_reducible refine w_geI ?_
  | with_reducible refine w_eqI ?_ | with_reducible refine w_neI ?_ | with_reducible refine w_eqT ?_ | with_reducible refine w_neT ?_ | with_reducible refine w_inS ?_ | with_reducible refine w_ninS ?_
  | with_reducible refine w_absI ?_ | with_reducible refine w_intI ?_ | with_reducible refine w_maxI ?_ | with_reducible refine w_minI ?_
  | with_reducible refine w_for ?_ | with_reducible refine w_iR1 ?_ | with_reducible refine w_iR2 ?_ | with_reducible refine w_iStr ?_ | with_reducible refine w_strI ?_ | with_reducible refine w_iList ?_ | with_reducible refine w_iTup ?_
  | with_reducible refine w_bm ?_ | with_reducible refine w_bm0 ?_ | with_reducible refine w_t ?_ | with_reducible refine w_f ?_ | with_reducible refine w_nt ?_ | with_reducible refine w_nx ?_ | with_reducible refine w_rt ?_ | with_reducible refine w_bk ?_ | with_reducible refine w_ct ?_ | with_reducible refine w_nf ?_ | with_reducible refine w_lc ?_ | with_reducible refine w_yes ?_ | with_reducible refine w_neg ?_ | with_reducible refine w_intB ?_ | with_reducible refine w_fld ?_ | with_reducible refine w_setf ?_ | with_reducible refine w_faug ?_ | with_reducible refine w_meth ?_ | with_reducible refine w_bmS ?_ | with_reducible refine w_start ?_ | with_reducible refine w_revL ?_ | with_reducible refine w_iR3 ?_))
local macro_rules | `(tactic| walk_at "w") => `(tactic| (repeat (first | walk_at "w1" | dsimp (config := { proj := false }) only [List.set_cons_zero, List.set_cons_succ])))
section
variable {w : World} [Lit] {mg : Str → Option Value} {base : Heap}
local macro_rules | `(tactic| walk_at "v1") => `(tactic| (first
  | with_reducible refine w_seq ?_ | with_reducible refine w_asgN ?_ | with_reducible refine w_c ?_
  | ((with_reducible refine' w_var ?wv ?_); (case wv => exact rfl))
  | with_reducible refine w_op ?_ | with_reducible refine w_un ?_ | with_reducible refine w_next ?_ | with_reducible refine w_brk ?_ | with_reducible refine w_cnt ?_
  | with_reducible refine w_ifS ?_ | with_reducible refine w_if ?_ | with_reducible refine w_test ?_ | with_reducible refine w_tB ?_ | with_reducible refine w_bl ?_ | with_reducible refine w_blI ?_
  | with_reducible refine w_and ?_ | with_reducible refine w_or ?_ | with_reducible refine w_not ?_ | with_reducible refine w_andV ?_ | with_reducible refine w_orV ?_ | with_reducible refine w_notV ?_
  | with_reducible refine w_nil ?_ | with_reducible refine w_cons ?_ | with_reducible refine w_cb ?_ | with_reducible refine w_call ?_ | with_reducible refine w_callS ?_ | with_reducible refine w_chain ?_
  | with_reducible refine w_sl ?_ | with_reducible refine w_noPart ?_ | with_reducible refine w_part ?_ | with_reducible refine w_partI ?_
  | with_reducible refine w_ret ?_ | with_reducible refine w_retN ?_ | with_reducible refine w_drop ?_ | with_reducible refine w_asg ?_ | with_reducible refine w_gSub ?_
  | ((with_reducible refine' w_aug ?wv ?_); (case wv => exact rfl)) | with_reducible refine w_ipI ?_
  | with_reducible refine w_addI ?_ | with_reducible refine w_subI ?_ | with_reducible refine w_ltI ?_ | with_reducible refine w_leI ?_ | with_reducible refine w_gtI ?_ | with_reducible refine w_geI ?_
  | with_reducible refine w_eqI ?_ | with_reducible refine w_neI ?_ | with_reducible refine w_eqT ?_ | with_reducible refine w_neT ?_ | with_reducible refine w_inS ?_ | with_reducible refine w_ninS ?_
  | with_reducible refine w_absI ?_ | with_reducible refine w_intI ?_ | with_reducible refine w_maxI ?_ | with_reducible refine w_minI ?_
  | with_reducible refine w_for ?_ | with_reducible refine w_iR1 ?_ | with_reducible refine w_iR2 ?_ | with_reducible refine w_iStr ?_ | with_reducible refine w_strI ?_ | with_reducible refine w_iList ?_ | with_reducible refine w_iTup ?_
  | with_reducible refine w_bm ?_ | with_reducible refine w_bm0 ?_ | with_reducible refine w_t ?_ | with_reducible refine w_f ?_ | with_reducible refine w_nt ?_ | with_reducible refine w_nx ?_ | with_reducible refine w_rt ?_ | with_reducible refine w_bk ?_ | with_reducible refine w_ct ?_ | with_reducible refine w_nf ?_ | with_reducible refine w_lc ?_ | with_reducible refine w_yes ?_ | with_reducible refine w_neg ?_ | with_reducible refine w_intB ?_ | with_reducible refine w_fld ?_ | with_reducible refine w_setf ?_ | with_reducible refine w_faug ?_ | with_reducible refine w_meth ?_ | with_reducible refine w_bmS ?_ | with_reducible refine w_start ?_ | with_reducible refine w_revL ?_ | with_reducible refine w_iR3 ?_))
local macro_rules | `(tactic| walk_at "v") => `(tactic| (repeat (first | walk_at "v1" | dsimp (config := { proj := false }) only [List.set_cons_zero, List.set_cons_succ])))
local macro_rules | `(tactic| walk_at "d") => `(tactic| (repeat (first | exact eva_nil | refine eva_cons ?_ ?_ | exact ev_str | exact ev_int | exact ev_neg | refine ev_tup ?_ | exact ev_var rfl (.str _) | exact ev_var rfl (.int _) | (refine ev_var rfl ?_; assumption))))


def chA (b : Kd) (m : Nat) : List G2 := (List.replicate m [Rw.lam b]).flatten
def chB (b : Kd) (w : List Nat) (n : Nat) : List G2 := (List.replicate n [Rw.app, Rw.tip (.cst w (.to b b))]).flatten
theorem gd_rep (l : List G2) : ∀ n, (List.replicate n (gd l)).flatten = gd (List.replicate n l).flatten
  | 0 => rfl
  | n + 1 => by rw [List.replicate_succ, List.replicate_succ, List.flatten_cons, List.flatten_cons, gd_app, gd_rep l n]
def apT (h x : Gt) : Nat → Gt
  | 0 => x
  | n + 1 => .app h (apT h x n)
def lmT (b : Kd) (t : Gt) : Nat → Gt
  | 0 => t
  | m + 1 => .lam b (lmT b t m)
theorem ap_rows (b : Kd) (w : List Nat) (x : Lf) : ∀ n, chB b w n ++ [.tip x] = rows (apT (.tip (.cst w (.to b b))) (.tip x) n)
  | 0 => rfl
  | n + 1 => by
    have ih := ap_rows b w x n
    show [Rw.app, Rw.tip (.cst w (.to b b))] ++ chB b w n ++ [.tip x] = _
    rw [List.append_assoc, ih]; rfl
theorem ch_rows (b : Kd) (w : List Nat) (x : Lf) (m n : Nat) : chA b m ++ chB b w n ++ [.tip x] = rows (lmT b (apT (.tip (.cst w (.to b b))) (.tip x) n) m) := by
  rw [List.append_assoc, ap_rows]
  induction m with
  | zero => rfl
  | succ m ih =>
    show [Rw.lam b] ++ chA b m ++ _ = _
    rw [List.append_assoc, ih]; rfl
theorem ch_ok {b : Kd} {h x : Gt} (hb : GK b) (hh : h.gok ∧ smB h ∧ h.nodes = 1) (hx : x.gok ∧ smB x ∧ x.nodes = 1) (m n : Nat) : (lmT b (apT h x n) m).gok ∧ smB (lmT b (apT h x n) m) ∧ (lmT b (apT h x n) m).nodes = m + 2 * n + 1 := by
  have h1 : ∀ n, (apT h x n).gok ∧ smB (apT h x n) ∧ (apT h x n).nodes = 2 * n + 1 := by
    intro n
    induction n with
    | zero => exact hx
    | succ n ih =>
      obtain ⟨a1, a2, a3⟩ := ih
      refine ⟨⟨hh.1, a1⟩, ⟨hh.2.1, a2⟩, ?_⟩
      show h.nodes + (apT h x n).nodes + 1 = _
      rw [hh.2.2, a3]; omega
  induction m with
  | zero =>
    obtain ⟨a1, a2, a3⟩ := h1 n
    exact ⟨a1, a2, by show (apT h x n).nodes = _; omega⟩
  | succ m ih =>
    obtain ⟨a1, a2, a3⟩ := ih
    refine ⟨⟨hb, a1⟩, a2, ?_⟩
    show (lmT b (apT h x n) m).nodes + 1 = _
    rw [a3]; omega
theorem chA_len (b : Kd) : ∀ m, (chA b m).length = m
  | 0 => rfl
  | m + 1 => by
    show ([Rw.lam b] ++ chA b m).length = _
    rw [List.length_append, chA_len b m]; show 1 + m = _; omega
theorem chB_len (b : Kd) (w : List Nat) : ∀ m, (chB b w m).length = m * 2
  | 0 => rfl
  | m + 1 => by
    show ([Rw.app, Rw.tip (Lf.cst w (.to b b))] ++ chB b w m).length = _
    rw [List.length_append, chB_len b w m]; show 2 + m * 2 = _; omega
theorem tTRUE (T : Txt w K mg) (H : Hp) : TD H (.ref (He.ga K "TRUE")) (upT (.tip (.cst gTRUE bK) : Gt)).d := by
  have e := T.l_TRUE H
  show TD H _ (.tuple [.str (S wCONST), .str (S gTRUE), .tuple [.str (S wNAMED), .str (S wBOOL)]])
  rw [show S wCONST = Str.ofString "const" from (S_ofs (by decide +kernel)).symm, show S gTRUE = Str.ofString "true" from (S_ofs (by decide +kernel)).symm, sNAMED, sBOOL]
  exact e
theorem tFALSE (T : Txt w K mg) (H : Hp) : TD H (.ref (He.ga K "FALSE")) (upT (.tip (.cst gFALSE bK) : Gt)).d := by
  have e := T.l_FALSE H
  show TD H _ (.tuple [.str (S wCONST), .str (S gFALSE), .tuple [.str (S wNAMED), .str (S wBOOL)]])
  rw [show S wCONST = Str.ofString "const" from (S_ofs (by decide +kernel)).symm, show S gFALSE = Str.ofString "false" from (S_ofs (by decide +kernel)).symm, sNAMED, sBOOL]
  exact e
theorem bK_T {g : List Nat} (h : g ∈ LOGIC) : OkT 130 (.tip (.cst g bK)) := ⟨⟨.inr h, bK_ok, by decide⟩, trivial, by show 1 ≤ 130; omega⟩
def sp_law (K : PySem.W.Frag) : Sp := sp1 fun x H Q _ => ∃ (a : Addr) (ns : List Int), x = .ref a ∧ SqL K H a (ns.map V.int) ∧ ns.length ≤ 63 ∧ ∀ H', Q (.bl true) H'
theorem law_ok (T : Txt w K mg) {fd : FuncData} (F : Fn_law K fd) (c_law_pot : CalX P w K mg base CX0 1 "_law_pot" (sp_law_pot K)) (c_law_words : CalX P w K mg base CX0 3 "_law_words" sp_law_words) (c_law_pool : CalX P w K mg base CX0 2 "_law_pool" sp_law_pool) (c_law_take : CalX P w K mg base CX0 1 "_law_take" sp_law_take) (c_law_grown : CalX P w K mg base CX0 3 "_law_grown" sp_law_grown) (c_law_same : CalG P w K mg base CX0 1 "_law_same" sp_law_same) (c_law_ask_places : CalG P w K mg base CX0 6 "_law_ask_places" sp_law_ask_places) (c_law_ask_reading : CalG P w K mg base CX0 3 "_law_ask_reading" sp_law_ask_reading) (c_law_ask_joined : CalG P w K mg base CX0 5 "_law_ask_joined" sp_law_ask_joined) (c_law_ask_equation : CalG P w K mg base CX0 133 "_law_ask_equation" sp_law_ask_equation) (c_law_ask_quantified : CalG P w K mg base CX0 136 "_law_ask_quantified" sp_law_ask_quantified) : FnG P w K mg base CX0 137 (He.ga K "law") fd ["script"] (sp_law K) := by
  refine F.okG sc_law (fun _ _ _ _ h => sp1_len h) (fun cdv A outer s H vs Q E hr h => ?_)
  obtain ⟨x0, rfl, h⟩ := h
  refine ⟨_, PSs.nox (pss_cons (ps_set (i := 1) sc_law.nd rfl (Or.inl rfl) (pe_tup (pa_cons pe_str (pa_cons pe_str pa_nil))))
    (pss_cons (ps_if (PW.pt (pw_or (pt_not (pt_val (pe_cg c_law_same hr (by decide) rfl pass0 (pa_cons (pe_gv T.v_TRUE) (pa_cons (pe_tup (pa_cons pe_str (pa_cons pe_str (pa_cons (pv 1) pa_nil)))) pa_nil))))) (pw_or1 (pt_not (pt_val (pe_cg c_law_same hr (by decide) rfl pass0 (pa_cons (pe_gv T.v_FALSE) (pa_cons (pe_tup (pa_cons pe_str (pa_cons pe_str (pa_cons (pv 1) pa_nil)))) pa_nil))))))))
    (pss_one (ps_ret pe_bl))
    pss_nil)
    (pss_cons (ps_for PassesOwn.never rfl (pi_range1 (by rfl) T.f_range (pa_cons (pe_callB (call_maxI rfl) (by rfl) T.f_max (by decide +kernel) (pa_cons pe_int (pa_cons (pe_callB (call_minI rfl) (by rfl) T.f_min (by decide +kernel) (pa_cons pe_int (pa_cons (pe_callB call_lenQ (by rfl) T.f_len PySem.boot_len (pa_cons (pv 0) pa_nil)) pa_nil))) pa_nil))) pa_nil)) (pg_name (i := 2) sc_law.nd rfl (Or.inl rfl))
    (pss_cons (ps_set (i := 3) sc_law.nd rfl (Or.inl rfl) (pe_cx c_law_pot hr.toRoom (by decide) rfl pass0 (pa_cons (pv 0) (pa_cons (pv 2) pa_nil))))
    (pss_cons (ps_set (i := 4) sc_law.nd rfl (Or.inl rfl) (pe_cx c_law_words hr.toRoom (by decide) rfl pass0 (pa_cons (pv 3) pa_nil)))
    (pss_cons (ps_set (i := 5) sc_law.nd rfl (Or.inl rfl) (pe_cx c_law_pool hr.toRoom (by decide) rfl pass0 (pa_cons (pv 3) (pa_cons (pv 4) pa_nil))))
    (pss_cons (ps_set (i := 6) sc_law.nd rfl (Or.inl rfl) (pe_ix ix_list (pv 5) (pe_cx c_law_take hr.toRoom (by decide) rfl pass0 (pa_cons (pv 3) (pa_cons pe_int pa_nil))) (fun _ _ => rfl)))
    (Evl.pss_cut (ps_if (pt_cmpR op_ne (pe_cx c_law_take hr.toRoom (by decide) rfl pass0 (pa_cons (pv 3) (pa_cons pe_int pa_nil))) pe_int (nomark _))
    (pss_one (ps_set (i := 6) sc_law.nd rfl (Or.inl rfl) (pv 1)))
    pss_nil)
    (pss_cons (ps_set (i := 7) sc_law.nd rfl (Or.inl rfl) (pe_cx c_law_grown hr.toRoom (by decide) rfl pass0 (pa_cons (pv 3) (pa_cons (pv 6) (pa_cons (pv 4) (pa_cons (pv 5) (pa_cons (pe_op op_addI pe_int (pe_cx c_law_take hr.toRoom (by decide) rfl pass0 (pa_cons (pv 3) (pa_cons pe_int pa_nil)))) pa_nil)))))))
    (pss_cons (ps_if (PW.pt (pw_or (pt_not (pt_val (pe_cg c_law_ask_places hr (by decide) rfl pass0 (pa_cons (pv 7) pa_nil)))) (pw_or1 (pt_not (pt_val (pe_cg c_law_ask_reading hr (by decide) rfl pass0 (pa_cons (pv 7) pa_nil)))))))
    (pss_one (ps_ret pe_bl))
    pss_nil)
    (pss_cons (ps_if (PW.pt (pw_or (pt_not (pt_val (pe_cg c_law_ask_joined hr (by decide) rfl pass0 (pa_cons (pv 3) (pa_cons (pv 4) (pa_cons (pv 5) pa_nil)))))) (pw_or1 (pt_not (pt_val (pe_cg c_law_ask_equation hr (by decide) rfl pass0 (pa_cons (pv 3) (pa_cons (pv 4) (pa_cons (pv 5) pa_nil)))))))))
    (pss_one (ps_ret pe_bl))
    pss_nil)
    (pss_cons (ps_if (pt_not (pt_val (pe_cg c_law_ask_quantified hr (by decide) rfl pass0 (pa_cons (pv 3) (pa_cons (pv 4) (pa_cons (pv 5) pa_nil))))))
    (pss_one (ps_ret pe_bl))
    pss_nil)
    (pss_cons (ps_set (i := 8) sc_law.nd rfl (Or.inl rfl) (pe_tup (pa_cons pe_str (pa_cons (pe_ix ix_list (pv 4) pe_int (fun _ _ => rfl)) pa_nil))))
    (pss_cons (ps_set (i := 9) sc_law.nd rfl (Or.inl rfl) (pe_tup (pa_cons pe_str (pa_cons (pe_ix ix_list (pv 4) pe_int (fun _ _ => rfl)) (pa_cons (pe_tup (pa_cons pe_str (pa_cons (pv 8) (pa_cons (pv 8) pa_nil)))) pa_nil)))))
    (pss_cons (ps_set (i := 10) sc_law.nd rfl (Or.inl rfl) (pe_op op_cat (pe_op op_rep (pe_lst (pa_cons (pe_tup (pa_cons pe_str (pa_cons (pv 8) pa_nil))) pa_nil)) (pe_cx c_law_take hr.toRoom (by decide) rfl pass0 (pa_cons (pv 3) (pa_cons pe_int pa_nil)))) (pe_op op_rep (pe_lst (pa_cons (pe_tup (pa_cons pe_str pa_nil)) (pa_cons (pv 9) pa_nil))) (pe_cx c_law_take hr.toRoom (by decide) rfl pass0 (pa_cons (pv 3) (pa_cons pe_int pa_nil))))))
    (pss_one (ps_if (PW.pt (pw_and (pt_cmpR op_eq (pe_cx c_law_take hr.toRoom (by decide) rfl pass0 (pa_cons (pv 3) (pa_cons pe_int pa_nil))) pe_int (nomark _)) (pw_and1 (pt_not (pt_val (pe_cg c_law_ask_places hr (by decide) rfl pass0 (pa_cons (pe_op op_cat (pv 10) (pe_lst (pa_cons (pe_tup (pa_cons pe_str (pa_cons (pe_ix ix_list (pv 4) pe_int (fun _ _ => rfl)) (pa_cons (pv 8) pa_nil)))) pa_nil))) pa_nil)))))))
    (pss_one (ps_ret pe_bl))
    pss_nil)))))))))))))))
    (pss_one (ps_ret pe_bl))))), ?_⟩
  rw [show start ["script", "truth", "k", "pot", "words", "pool", "kind", "code", "base", "hop", "chain"] [x0] = [some x0, none, none, none, none, none, none, none, none, none, none] from rfl]
  have ec0 : Str.ofString "named" = S [110,97,109,101,100] := S_ofs (by decide +kernel)
  have ec1 : Str.ofString "bool" = S [98,111,111,108] := S_ofs (by decide +kernel)
  have ec2 : Str.ofString "const" = S [99,111,110,115,116] := S_ofs (by decide +kernel)
  have ec3 : Str.ofString "to" = S [116,111] := S_ofs (by decide +kernel)
  have ec4 : Str.ofString "true" = S [116,114,117,101] := S_ofs (by decide +kernel)
  have ec5 : Str.ofString "false" = S [102,97,108,115,101] := S_ofs (by decide +kernel)
  have ec6 : Str.ofString "lam" = S [108,97,109] := S_ofs (by decide +kernel)
  have ec7 : Str.ofString "app" = S [97,112,112] := S_ofs (by decide +kernel)
  have ec8 : Str.ofString "var" = S [118,97,114] := S_ofs (by decide +kernel)
  rw [ec0, ec1, ec2, ec3, ec4, ec5, ec6, ec7, ec8]
  obtain ⟨a, ns, rfl, hS, hn, hQ⟩ := h
  try dsimp only [cxOf]
  walk_at "v"
  refine ev_go (d := bK.d) (by show Ev _ _ _ (.tuple [.str (S wNAMED), .str (S wBOOL)]); walk_at "d") (fun xb H1 s1 tb => ?_)
  walk_at "v"
  refine ev_go (d := (upT (.tip (.cst gTRUE bK) : Gt)).d) (by
    show Ev _ _ _ (.tuple [.str (S wCONST), .str (S gTRUE), bK.d])
    walk_at "d") (fun x2 H2 s2 t2 => ?_)
  walk_at "v"
  refine same_T (r := .tip (.cst gTRUE bK)) (tTRUE T _) t2 (shw_T (bK_T (by decide)) (by show 1 ≤ 700; omega)) ?_
  walk_at "v"
  have tb := tb.tm (Tm.same s2)
  refine ev_go (d := (upT (.tip (.cst gFALSE bK) : Gt)).d) (by
    show Ev _ _ _ (.tuple [.str (S wCONST), .str (S gFALSE), bK.d])
    walk_at "d") (fun x3 H3 s3 t3 => ?_)
  walk_at "v"
  refine same_T (r := .tip (.cst gFALSE bK)) (tFALSE T _) t3 (shw_T (bK_T (by decide)) (by show 1 ≤ 700; omega)) ?_
  walk_at "v"
  have tb := tb.tm (Tm.same s3)
  have s03 := (s1.tr s2).tr s3
  refine w_lenL (hS.sm s03) ?_
  rw [List.length_map]
  walk_at "v"
  obtain ⟨M, hM, hM1, hM2⟩ : ∃ M : Nat, (if (if (ns.length : Int) < 4 then (ns.length : Int) else 4) > 1 then (if (ns.length : Int) < 4 then (ns.length : Int) else 4) else 1) = (M : Int) ∧ 1 ≤ M ∧ M ≤ 4 := by
    by_cases h1 : (ns.length : Int) < 4
    · rw [if_pos h1]
      by_cases h2 : (ns.length : Int) > 1
      · rw [if_pos h2]; exact ⟨ns.length, rfl, by omega, by omega⟩
      · rw [if_neg h2]; exact ⟨1, rfl, by omega, by omega⟩
    · rw [if_neg h1]; exact ⟨4, rfl, by omega, by omega⟩
  rw [hM]
  refine w_rg1 (by omega) (by omega) ?_
  rw [show ((M : Int)).toNat = M from Int.toNat_natCast _]
  refine for_range (fun i σ H' => Same H3 H' ∧ ∃ (v2 v3 v4 v5 v6 v7 v8 v9 v10 : Option V), σ = [some (.ref a), some xb, v2, v3, v4, v5, v6, v7, v8, v9, v10]) ⟨Same.refl' _, _, _, _, _, _, _, _, _, _, rfl⟩ ?_ ?_
  · rintro i σ G hi ⟨s, v2, v3, v4, v5, v6, v7, v8, v9, v10, rfl⟩
    have hi : i < M := hi
    dsimp only [gName]
    walk_at "v"
    rw [show (0 : Int) + (i : Int) = (i : Int) by omega]
    refine ⟨_, _, rfl, a, ns, i, rfl, rfl, hS.sm (s03.tr s), hn, by omega, fun p G1 hp1 s1' P1 => ?_⟩
    walk_at "v"
    refine ⟨_, rfl, p, rfl, P1, fun pw G2 hw2 W2 P2 k2 => ?_⟩
    walk_at "v"
    obtain ⟨ws, W2⟩ := W2
    have W2 : NmW ws G2 pw := W2
    have hpw : pw ≠ p := W2.ne P2
    refine ⟨_, _, rfl, p, pw, rfl, rfl, P2, W2.nm, fun q G3 hq3 L3 P3 k3 => ?_⟩
    have hqp : q ≠ p := L3.ne P3 (by omega)
    walk_at "v"
    have W3 := W2.kb P2 k3 hpw
    have tb3 : TD G3 xb bK.d := ((((tb.tm (Tm.same s)).tm (Tm.same s1')).tm (Kb.pot_tm P1 k2)).tm (Kb.pot_tm P2 k3))
    refine ⟨_, _, rfl, p, 4, rfl, rfl, by omega, by omega, P3, fun y4 G4 hy4 P4 k4 => ?_⟩
    walk_at "v"
    have k34 := k4
    refine (L3.kb P3 k34 hqp).ix hy4 (fun xk kd okd szd tk => ?_)
    walk_at "v"
    have tb4 := tb3.tm (Kb.pot_tm P3 k4)
    refine w_mid (fun σ H' => ∃ (kd : Kd) (xk : V), σ = [some (.ref a), some xb, some (.int (i : Int)), some (.ref p), some (.ref pw), some (.ref q), some xk, v7, v8, v9, v10] ∧ TD H' xk kd.d ∧ kd.ok ∧ kd.sz ≤ 5 ∧ Pot p H' ∧ Kb p G3 H') ?_ ?_
    · walk_at "v"
      refine ⟨_, _, rfl, p, 4, rfl, rfl, by omega, by omega, P4, fun y5 G5 hy5 P5 k5 => ?_⟩
      walk_at "v"
      refine w_ndec (fun h1 => ?_) (fun h1 => ?_)
      · walk_at "v"
        exact ⟨bK, xb, rfl, tb4.tm (Kb.pot_tm P4 k5), bK_ok, by decide, P5, k34.tr k5⟩
      · walk_at "v"
        exact ⟨kd, xk, rfl, tk.tm (Kb.pot_tm P4 k5), okd, szd, P5, k34.tr k5⟩
    rintro σ G5 ⟨kd, xk, rfl, tk5, okd, szd, P5, k35⟩
    walk_at "v"
    refine ⟨_, _, rfl, p, 23, rfl, rfl, by omega, by omega, P5, fun y6 G6 hy6 P6 k6 => ?_⟩
    walk_at "v"
    have k36 := k35.tr k6
    rw [show ((2 : Int) + (y6 : Int)) = ((y6 + 2 : Nat) : Int) by omega]
    refine ⟨_, _, _, _, _, rfl, p, pw, q, kd, y6 + 2, ws, rfl, tk5.tm (Kb.pot_tm P5 k6), rfl, rfl, rfl, P6, W3.kb P3 k36 hpw, L3.kb P3 k36 hqp, okd, by omega, by omega, fun r G7 c hr7 d7 tf gf cl P7 k7 => ?_⟩
    walk_at "v"
    obtain ⟨t, rfl, ty, okt, lgt, nt⟩ := grown_ok (n := 100) tf gf (by omega) (by omega)
    have k37 := k36.tr k7
    have okt := okt.mono (show 100 ≤ 120 by omega)
    refine ⟨_, rfl, r, t, rfl, d7, okt, nt, fun G8 s8 => ?_⟩
    walk_at "v"
    refine ⟨_, rfl, r, t, rfl, d7.same s8, okt, lgt, nt, fun G9 s9 => ?_⟩
    walk_at "v"
    have s79 := s8.tr s9
    have P9 := P7.same s79
    have k39 := k37.then s79
    refine ⟨_, _, _, rfl, p, pw, q, ws, rfl, rfl, rfl, P9, W3.kb P3 k39 hpw, L3.kb P3 k39 hqp, fun Ga Pa ka => ?_⟩
    walk_at "v"
    have k3a := k39.tr ka
    refine ⟨_, _, _, rfl, p, pw, q, ws, rfl, rfl, rfl, Pa, W3.kb P3 k3a hpw, L3.kb P3 k3a hqp, fun Gb Pb kb => ?_⟩
    walk_at "v"
    have k3b := k3a.tr kb
    refine ⟨_, _, _, rfl, p, pw, q, ws, rfl, rfl, rfl, Pb, W3.kb P3 k3b hpw, L3.kb P3 k3b hqp, fun Gc Pc kc => ?_⟩
    walk_at "v"
    have k3c := k3b.tr kc
    have Wc := W3.kb P3 k3c hpw
    refine w_tupN ?_
    walk_at "v"
    refine Wc.ix (i := 0) (by omega) (fun w0 n0 => ?_)
    walk_at "v"
    refine t_new (ds := [.str (S wNAMED), .str (S w0)]) (.cons (.str _) (.cons (.str _) .nil)) (fun pb Gd hpb sd td => ?_)
    walk_at "v"
    have td : TD Gd (.ref pb) (Kd.nm w0).d := td
    refine w_tupN ?_
    walk_at "v"
    refine (Wc.same sd).ix (i := 2) (by omega) (fun w2 n2 => ?_)
    walk_at "v"
    refine ev_go (d := (Kd.to (.nm w0) (.nm w0)).d) (by
      show Ev _ _ _ (.tuple [.str (S wTO), (Kd.nm w0).d, (Kd.nm w0).d])
      walk_at "d") (fun xh Ge se te => ?_)
    walk_at "v"
    refine t_new (ds := [.str (S wCONST), .str (S w2), (Kd.to (.nm w0) (.nm w0)).d]) (.cons (.str _) (.cons (.str _) (.cons te .nil))) (fun ph Gf hph sf tf2 => ?_)
    walk_at "v"
    have tb_f : TD Gf (.ref pb) (Kd.nm w0).d := td.tm (Tm.same (se.tr sf))
    have scf := (sd.tr se).tr sf
    have Pf := Pc.same scf
    have k3f := k3c.then scf
    refine ev_lst (ds := gd [.lam (.nm w0)]) (by
      show EvA _ _ _ [.tuple [.str (S wLAM), (Kd.nm w0).d]]
      walk_at "d") (fun l1 Gg hl1 sg dl1 => ?_)
    walk_at "v"
    have Pg := Pf.same sg
    have k3g := k3f.then sg
    have hl1p : l1 ≠ p := Pf.ne hl1
    refine ⟨_, _, rfl, p, 25, rfl, rfl, by omega, by omega, Pg, fun y7 Gh hy7 Ph kh => ?_⟩
    walk_at "v"
    have k3h := k3g.tr kh
    refine l_rep (n := y7) (DLkb dl1 Pg kh hl1p) (fun l2 Gi hl2 si dl2 => ?_) (by rw [gd_len]; show 1 * y7 ≤ 100000; omega)
    walk_at "v"
    have Pi := Ph.same si
    have k3i := k3h.then si
    have hl2p : l2 ≠ p := Ph.ne hl2
    rw [gd_rep] at dl2
    have tmgi : Tm Gf Gi := ((Tm.same sg).tr (Kb.pot_tm Pg kh)).tr (Tm.same si)
    have thi : TD Gi (.ref ph) (Lf.cst w2 (.to (.nm w0) (.nm w0))).d := tf2.tm tmgi
    refine ev_lst (ds := gd [.app, .tip (.cst w2 (.to (.nm w0) (.nm w0)))]) (by
      show EvA _ _ _ [.tuple [.str (S wAPP)], (Lf.cst w2 (.to (.nm w0) (.nm w0))).d]
      walk_at "d") (fun l3 Gj hl3 sj dl3 => ?_)
    walk_at "v"
    have Pj := Pi.same sj
    have k3j := k3i.then sj
    have hl3p : l3 ≠ p := Pi.ne hl3
    have dl2j := dl2.same sj
    refine ⟨_, _, rfl, p, 26, rfl, rfl, by omega, by omega, Pj, fun y8 Gk hy8 Pk kk => ?_⟩
    walk_at "v"
    have k3k := k3j.tr kk
    refine l_rep (n := y8) (DLkb dl3 Pj kk hl3p) (fun l4 Gl hl4 sl dl4 => ?_) (by rw [gd_len]; show 2 * y8 ≤ 100000; omega)
    walk_at "v"
    rw [gd_rep] at dl4
    have k3l := k3k.then sl
    have Pl := Pk.same sl
    have dl2l := (DLkb dl2j Pj kk hl2p).same sl
    have la := chA_len (.nm w0) y7
    have lb := chB_len (.nm w0) w2 y8
    refine l_cat dl2l dl4 (fun l5 Gm hl5 sm dl5 => ?_) (by
      rw [gd_len, gd_len]
      show (chA (.nm w0) y7).length + (chB (.nm w0) w2 y8).length ≤ 100000
      omega)
    walk_at "v"
    rw [← gd_app] at dl5
    have dl5 : DL Gm l5 (gd (chA (.nm w0) y7 ++ chB (.nm w0) w2 y8)) := dl5
    have k3m := k3l.then sm
    have Pm := Pl.same sm
    have hl5p : l5 ≠ p := Pl.ne hl5
    have tbm : TD Gm (.ref pb) (Kd.nm w0).d := ((((tb_f.tm tmgi).tm (Tm.same sj)).tm (Kb.pot_tm Pj kk)).tm (Tm.same sl)).tm (Tm.same sm)
    refine ⟨_, _, rfl, p, 4, rfl, rfl, by omega, by omega, Pm, fun y9 Gn hy9 Pn kn => ?_⟩
    walk_at "v"
    have k3n := k3m.tr kn
    have fin : ∀ {G' : Hp} {u2 u3 u4 u5 u6 u7 u8 u9 u10 : Option V}, Kb p G3 G' → Same H3 G' ∧ ∃ (v2 v3 v4 v5 v6 v7 v8 v9 v10 : Option V), [some (.ref a), some xb, u2, u3, u4, u5, u6, u7, u8, u9, u10] = [some (.ref a), some xb, v2, v3, v4, v5, v6, v7, v8, v9, v10] := fun {G' u2 u3 u4 u5 u6 u7 u8 u9 u10} k =>
      ⟨Same.kb (s.tr s1') (s.fresh hp1) ((k2.tr k3).tr k), u2, u3, u4, u5, u6, u7, u8, u9, u10, rfl⟩
    refine w_dec (fun h1 => ?_) (fun h1 => ?_)
    · walk_at "v"
      have Wn := W3.kb P3 k3n hpw
      have dl5n := DLkb dl5 Pm kn hl5p
      have tbn := tbm.tm (Kb.pot_tm Pm kn)
      refine w_lstN ?_
      walk_at "v"
      refine w_tupN ?_
      walk_at "v"
      refine Wn.ix (i := 1) (by omega) (fun w1 n1 => ?_)
      walk_at "v"
      refine t_new (ds := [.str (S wVAR), .str (S w1), (Kd.nm w0).d]) (.cons (.str _) (.cons (.str _) (.cons tbn .nil))) (fun pv Go hpv so tv => ?_)
      walk_at "v"
      refine l_new (ds := gd [.tip (.var w1 (.nm w0))]) (.cons tv .nil) (fun l6 Gp hl6 sp6 dl6 => ?_)
      walk_at "v"
      have snp := so.tr sp6
      refine l_cat (dl5n.same snp) dl6 (fun l7 Gq hl7 sq dl7 => ?_) (by
        rw [gd_len, gd_len, List.length_append, la, lb]
        show y7 + y8 * 2 + 1 ≤ 100000
        omega)
      walk_at "v"
      rw [← gd_app, ch_rows] at dl7
      have gk0 : GK (.nm w0) := ⟨.inl n0.1, Nat.le_of_ble_eq_true rfl⟩
      obtain ⟨c1, c2, c3⟩ := ch_ok (b := .nm w0) (h := .tip (.cst w2 (.to (.nm w0) (.nm w0)))) (x := .tip (.var w1 (.nm w0))) gk0 ⟨⟨.inl n2.1, ⟨gk0.1, gk0.1⟩, Nat.le_of_ble_eq_true rfl⟩, trivial, rfl⟩ ⟨⟨n1.1, gk0⟩, trivial, rfl⟩ y7 y8
      have dpc := dep_nodes (lmT (.nm w0) (apT (.tip (.cst w2 (.to (.nm w0) (.nm w0)))) (.tip (.var w1 (.nm w0))) y8) y7)
      refine ⟨_, rfl, l7, _, rfl, dl7, ⟨c1, c2, by omega⟩, by omega, fun Gr sr => ?_⟩
      walk_at "v"
      exact fin (k3n.then ((snp.tr sq).tr sr))
    · walk_at "v"
      exact fin k3n
  · rintro σ G ⟨s, v2, v3, v4, v5, v6, v7, v8, v9, v10, rfl⟩
    walk_at "v"
    exact hQ G
end
end K03

namespace K03
open PySem PySem.Spec PyProof.Rows L2 SX K02 K01
local macro_rules | `(tactic| walk_at "w1") => `(tactic| (first
  | with_reducible refine w_seq ?_ | with_reducible refine w_asgN ?_ | with_reducible refine w_c ?_
  | ((with_reducible refine' w_var ?wv ?_); (case wv => exact rfl))
  | with_reducible refine w_op ?_ | with_reducible refine w_un ?_ | with_reducible refine w_next ?_ | with_reducible refine w_brk ?_ | with_reducible refine w_cnt ?_
  | with_reducible refine w_ifS ?_ | with_reducible refine w_if ?_ | with_reducible refine w_test ?_ | with_reducible refine w_tB ?_ | with_reducible refine w_bl ?_ | with_reducible refine w_blI ?_
  | with_reducible refine w_and ?_ | with_reducible refine w_or ?_ | with_reducible refine w_not ?_ | with_reducible refine w_andV ?_ | with_reducible refine w_orV ?_ | with_reducible refine w_notV ?_
  | with_reducible refine w_nil ?_ | with_reducible refine w_cons ?_ | with_reducible refine w_cb ?_ | with_reducible refine w_call ?_ | with_reducible refine w_callS ?_ | with_reducible refine w_chain ?_
  | with_reducible refine w_tupN ?_ | with_reducible refine w_lstN ?_ | with_reducible refine w_sl ?_ | with_reducible refine w_noPart ?_ | with_reducible refine w_part ?_ | with_reducible refine w_partI ?_
  | with_reducible refine w_ret ?_ | with_reducible refine w_retN ?_ | with_reducible refine w_drop ?_ | with_reducible refine w_asg ?_ | with_reducible refine w_gSub ?_
  | ((with_reducible refine' w_aug ?wv ?_); (case wv => exact rfl)) | with_reducible refine w_ipI ?_
  | with_reducible refine w_addI ?_ | with_reducible refine w_subI ?_ | with_reducible refine w_ltI ?_ | with_reducible refine w_leI ?_ | with_reducible refine w_gtI ?_ | with_reducible refine w_geI ?_
  | with_reducible refine w_eqI ?_ | with_reducible refine w_neI ?_ | with_reducible refine w_eqT ?_ | with_reducible refine w_neT ?_ | with_reducible refine w_inS ?_ | with_reducible refine w_ninS ?_
  | with_reducible refine w_absI ?_ | with_reducible refine w_intI ?_ | with_reducible refine w_maxI ?_ | with_reducible refine w_minI ?_
  | with_reducible refine w_for ?_ | with_reducible refine w_iR1 ?_ | with_reducible refine w_iR2 ?_ | with_reducible refine w_iStr ?_ | with_reducible refine w_strI ?_ | with_reducible refine w_iList ?_ | with_reducible refine w_iTup ?_
  | with_reducible refine w_bm ?_ | with_reducible refine w_bm0 ?_ | with_reducible refine w_t ?_ | with_reducible refine w_f ?_ | with_reducible refine w_nt ?_ | with_reducible refine w_nx ?_ | with_reducible refine w_rt ?_ | with_reducible refine w_bk ?_ | with_reducible refine w_ct ?_ | with_reducible refine w_nf ?_ | with_reducible refine w_lc ?_ | with_reducible refine w_yes ?_ | with_reducible refine w_neg ?_ | with_reducible refine w_intB ?_ | with_reducible refine w_fld ?_ | with_reducible refine w_setf ?_ | with_reducible refine w_faug ?_ | with_reducible refine w_meth ?_ | with_reducible refine w_bmS ?_ | with_reducible refine w_start ?_ | with_reducible refine w_revL ?_ | with_reducible refine w_iR3 ?_))
local macro_rules | `(tactic| walk_at "w") => `(tactic| (repeat (first | walk_at "w1" | dsimp (config := { proj := false }) only [List.set_cons_zero, List.set_cons_succ])))
theorem facts {w : World} {K : PySem.W.Frag} {h : Heap} {mg : Str → Option Value} {f : Addr} (X : K.In h) (G : h.Ns mainGlobals mg) (hfa : mg ("law" : Str) = some (.ref f)) (c : HallHt.SaysH fa fn hs ex ts w K) :
    ∃ fd : FuncData, (∀ (s : Shared) (v : Value), BindsTo s fd ⟨[v], []⟩ [("script", v)]) ∧ ∀ base : Heap, K.In base → base.Ns mainGlobals mg → FnG P w K mg base CX0 137 f fd ["script"] (sp_law K) := by
  letI : L2.Lit := ⟨K⟩
  have T : Txt w L2.K mg := txt_of X G c
  obtain ⟨fd_law_pot, F_law_pot⟩ := c.d.def_ 22 (d := dd "_law_pot" 31) rfl
  have m_law_pot := He.glo_ok X G (c.d.fact 22 (f := .glo "_law_pot") rfl)
  obtain ⟨fd_law_take, F_law_take⟩ := c.d.def_ 23 (d := dd "_law_take" 32) rfl
  have m_law_take := He.glo_ok X G (c.d.fact 23 (f := .glo "_law_take") rfl)
  obtain ⟨fd_law_mended, F_law_mended⟩ := c.d.def_ 24 (d := dd "_law_mended" 33) rfl
  have m_law_mended := He.glo_ok X G (c.d.fact 24 (f := .glo "_law_mended") rfl)
  obtain ⟨fd_law_name, F_law_name⟩ := c.d.def_ 25 (d := dd "_law_name" 34) rfl
  have m_law_name := He.glo_ok X G (c.d.fact 25 (f := .glo "_law_name") rfl)
  obtain ⟨fd_law_near, F_law_near⟩ := c.d.def_ 26 (d := dd "_law_near" 35) rfl
  have m_law_near := He.glo_ok X G (c.d.fact 26 (f := .glo "_law_near") rfl)
  obtain ⟨fd_law_words, F_law_words⟩ := c.d.def_ 27 (d := dd "_law_words" 36) rfl
  have m_law_words := He.glo_ok X G (c.d.fact 27 (f := .glo "_law_words") rfl)
  obtain ⟨fd_law_pool, F_law_pool⟩ := c.d.def_ 29 (d := dd "_law_pool" 38) rfl
  have m_law_pool := He.glo_ok X G (c.d.fact 29 (f := .glo "_law_pool") rfl)
  obtain ⟨fd_law_signs, F_law_signs⟩ := c.d.def_ 30 (d := dd "_law_signs" 39) rfl
  have m_law_signs := He.glo_ok X G (c.d.fact 30 (f := .glo "_law_signs") rfl)
  obtain ⟨fd_law_tip, F_law_tip⟩ := c.d.def_ 31 (d := dd "_law_tip" 40) rfl
  have m_law_tip := He.glo_ok X G (c.d.fact 31 (f := .glo "_law_tip") rfl)
  obtain ⟨fd_law_grow_formula, F_law_grow_formula⟩ := c.d.def_ 32 (d := dd "_law_grow_formula" 41) rfl
  have m_law_grow_formula := He.glo_ok X G (c.d.fact 32 (f := .glo "_law_grow_formula") rfl)
  obtain ⟨fd_law_grown, F_law_grown⟩ := c.d.def_ 33 (d := dd "_law_grown" 42) rfl
  have m_law_grown := He.glo_ok X G (c.d.fact 33 (f := .glo "_law_grown") rfl)
  obtain ⟨fd_law_same, F_law_same⟩ := c.d.def_ 28 (d := dd "_law_same" 37) rfl
  have m_law_same := He.glo_ok X G (c.d.fact 28 (f := .glo "_law_same") rfl)
  obtain ⟨fd_law_extents, F_law_extents⟩ := c.d.def_ 36 (d := dd "_law_extents" 45) rfl
  have m_law_extents := He.glo_ok X G (c.d.fact 36 (f := .glo "_law_extents") rfl)
  obtain ⟨fd_law_parts, F_law_parts⟩ := c.d.def_ 37 (d := dd "_law_parts" 46) rfl
  have m_law_parts := He.glo_ok X G (c.d.fact 37 (f := .glo "_law_parts") rfl)
  obtain ⟨fd_law_spots, F_law_spots⟩ := c.d.def_ 39 (d := dd "_law_spots" 48) rfl
  have m_law_spots := He.glo_ok X G (c.d.fact 39 (f := .glo "_law_spots") rfl)
  obtain ⟨fd_places, F_places⟩ := c.d.def_ 10 (d := dd "places" 13) rfl
  have m_places := He.glo_ok X G (c.d.fact 10 (f := .glo "places") rfl)
  obtain ⟨fd_child, F_child⟩ := c.d.def_ 8 (d := dd "_child" 11) rfl
  have m_child := He.glo_ok X G (c.d.fact 8 (f := .glo "_child") rfl)
  obtain ⟨fd_part_at, F_part_at⟩ := c.d.def_ 9 (d := dd "part_at" 12) rfl
  have m_part_at := He.glo_ok X G (c.d.fact 9 (f := .glo "part_at") rfl)
  obtain ⟨fd_law_ask_places, F_law_ask_places⟩ := c.d.def_ 42 (d := dd "_law_ask_places" 51) rfl
  have m_law_ask_places := He.glo_ok X G (c.d.fact 42 (f := .glo "_law_ask_places") rfl)
  obtain ⟨fd_law_levels, F_law_levels⟩ := c.d.def_ 34 (d := dd "_law_levels" 43) rfl
  have m_law_levels := He.glo_ok X G (c.d.fact 34 (f := .glo "_law_levels") rfl)
  obtain ⟨fd_spine, F_spine⟩ := c.d.def_ 20 (d := dd "spine" 28) rfl
  have m_spine := He.glo_ok X G (c.d.fact 20 (f := .glo "spine") rfl)
  obtain ⟨fd_match_kind, F_match_kind⟩ := c.d.def_ 1 (d := dd "match_kind" 3) rfl
  have m_match_kind := He.glo_ok X G (c.d.fact 1 (f := .glo "match_kind") rfl)
  obtain ⟨fd_read_formula, F_read_formula⟩ := c.d.def_ 21 (d := dd "read_formula" 29) rfl
  have m_read_formula := He.glo_ok X G (c.d.fact 21 (f := .glo "read_formula") rfl)
  obtain ⟨fd_law_read, F_law_read⟩ := c.d.def_ 40 (d := dd "_law_read" 49) rfl
  have m_law_read := He.glo_ok X G (c.d.fact 40 (f := .glo "_law_read") rfl)
  obtain ⟨fd_law_spine, F_law_spine⟩ := c.d.def_ 41 (d := dd "_law_spine" 50) rfl
  have m_law_spine := He.glo_ok X G (c.d.fact 41 (f := .glo "_law_spine") rfl)
  obtain ⟨fd_law_ask_reading, F_law_ask_reading⟩ := c.d.def_ 43 (d := dd "_law_ask_reading" 52) rfl
  have m_law_ask_reading := He.glo_ok X G (c.d.fact 43 (f := .glo "_law_ask_reading") rfl)
  obtain ⟨fd_law_built, F_law_built⟩ := c.d.def_ 38 (d := dd "_law_built" 47) rfl
  have m_law_built := He.glo_ok X G (c.d.fact 38 (f := .glo "_law_built") rfl)
  obtain ⟨fd_app, F_app⟩ := c.d.def_ 3 (d := dd "app" 6) rfl
  have m_app := He.glo_ok X G (c.d.fact 3 (f := .glo "app") rfl)
  obtain ⟨fd_const, F_const⟩ := c.d.def_ 2 (d := dd "const" 5) rfl
  have m_const := He.glo_ok X G (c.d.fact 2 (f := .glo "const") rfl)
  obtain ⟨fd_nested, F_nested⟩ := c.d.def_ 13 (d := dd "_nested" 21) rfl
  have m_nested := He.glo_ok X G (c.d.fact 13 (f := .glo "_nested") rfl)
  obtain ⟨fd_conjunction, F_conjunction⟩ := c.d.def_ 14 (d := dd "conjunction" 22) rfl
  have m_conjunction := He.glo_ok X G (c.d.fact 14 (f := .glo "conjunction") rfl)
  obtain ⟨fd_law_conjunction, F_law_conjunction⟩ := c.d.def_ 44 (d := dd "_law_conjunction" 53) rfl
  have m_law_conjunction := He.glo_ok X G (c.d.fact 44 (f := .glo "_law_conjunction") rfl)
  obtain ⟨fd_disjunction, F_disjunction⟩ := c.d.def_ 15 (d := dd "disjunction" 23) rfl
  have m_disjunction := He.glo_ok X G (c.d.fact 15 (f := .glo "disjunction") rfl)
  obtain ⟨fd_law_disjunction, F_law_disjunction⟩ := c.d.def_ 45 (d := dd "_law_disjunction" 54) rfl
  have m_law_disjunction := He.glo_ok X G (c.d.fact 45 (f := .glo "_law_disjunction") rfl)
  obtain ⟨fd_implication, F_implication⟩ := c.d.def_ 16 (d := dd "implication" 24) rfl
  have m_implication := He.glo_ok X G (c.d.fact 16 (f := .glo "implication") rfl)
  obtain ⟨fd_law_implication, F_law_implication⟩ := c.d.def_ 46 (d := dd "_law_implication" 55) rfl
  have m_law_implication := He.glo_ok X G (c.d.fact 46 (f := .glo "_law_implication") rfl)
  obtain ⟨fd_law_nested, F_law_nested⟩ := c.d.def_ 47 (d := dd "_law_nested" 56) rfl
  have m_law_nested := He.glo_ok X G (c.d.fact 47 (f := .glo "_law_nested") rfl)
  obtain ⟨fd_negation, F_negation⟩ := c.d.def_ 12 (d := dd "negation" 20) rfl
  have m_negation := He.glo_ok X G (c.d.fact 12 (f := .glo "negation") rfl)
  obtain ⟨fd_law_ask_joined, F_law_ask_joined⟩ := c.d.def_ 48 (d := dd "_law_ask_joined" 57) rfl
  have m_law_ask_joined := He.glo_ok X G (c.d.fact 48 (f := .glo "_law_ask_joined") rfl)
  obtain ⟨fd_fun_kind, F_fun_kind⟩ := c.d.def_ 0 (d := dd "fun_kind" 2) rfl
  have m_fun_kind := He.glo_ok X G (c.d.fact 0 (f := .glo "fun_kind") rfl)
  obtain ⟨fd_equation, F_equation⟩ := c.d.def_ 11 (d := dd "equation" 19) rfl
  have m_equation := He.glo_ok X G (c.d.fact 11 (f := .glo "equation") rfl)
  obtain ⟨fd_law_ask_equation, F_law_ask_equation⟩ := c.d.def_ 49 (d := dd "_law_ask_equation" 58) rfl
  have m_law_ask_equation := He.glo_ok X G (c.d.fact 49 (f := .glo "_law_ask_equation") rfl)
  obtain ⟨fd_law_abstracted, F_law_abstracted⟩ := c.d.def_ 35 (d := dd "_law_abstracted" 44) rfl
  have m_law_abstracted := He.glo_ok X G (c.d.fact 35 (f := .glo "_law_abstracted") rfl)
  obtain ⟨fd_abstract, F_abstract⟩ := c.d.def_ 7 (d := dd "abstract" 10) rfl
  have m_abstract := He.glo_ok X G (c.d.fact 7 (f := .glo "abstract") rfl)
  obtain ⟨fd_lam, F_lam⟩ := c.d.def_ 4 (d := dd "lam" 7) rfl
  have m_lam := He.glo_ok X G (c.d.fact 4 (f := .glo "lam") rfl)
  obtain ⟨fd_quantified, F_quantified⟩ := c.d.def_ 17 (d := dd "_quantified" 25) rfl
  have m_quantified := He.glo_ok X G (c.d.fact 17 (f := .glo "_quantified") rfl)
  obtain ⟨fd_for_all, F_for_all⟩ := c.d.def_ 18 (d := dd "for_all" 26) rfl
  have m_for_all := He.glo_ok X G (c.d.fact 18 (f := .glo "for_all") rfl)
  obtain ⟨fd_for_some, F_for_some⟩ := c.d.def_ 19 (d := dd "for_some" 27) rfl
  have m_for_some := He.glo_ok X G (c.d.fact 19 (f := .glo "for_some") rfl)
  obtain ⟨fd_law_ask_quantified, F_law_ask_quantified⟩ := c.d.def_ 50 (d := dd "_law_ask_quantified" 59) rfl
  have m_law_ask_quantified := He.glo_ok X G (c.d.fact 50 (f := .glo "_law_ask_quantified") rfl)
  obtain ⟨fd_abstracted, F_abstracted⟩ := c.d.def_ 6 (d := dd "_abstracted" 9) rfl
  have m_abstracted := He.glo_ok X G (c.d.fact 6 (f := .glo "_abstracted") rfl)
  obtain ⟨fd_kind_within, F_kind_within⟩ := c.d.def_ 5 (d := dd "kind_within" 8) rfl
  have m_kind_within := He.glo_ok X G (c.d.fact 5 (f := .glo "kind_within") rfl)
  obtain ⟨fd_law, F_law⟩ := c.d.def_ 51 (d := dd "law" 60) rfl
  have m_law := He.glo_ok X G (c.d.fact 51 (f := .glo "law") rfl)
  have e := hfa.symm.trans m_law
  cases e
  have b := FunD.bindsA (ps := ["script"]) F_law fun _ _ _ _ _ _ us hl => match us, hl with | [_], _ => rfl
  refine ⟨fd_law, fun s v => b s [v] rfl, fun base _ _ => ?_⟩
  have H_c_law_pot := ok_law_pot (w := w) (base := base) T F_law_pot m_law_pot 
  have H_c_law_take := ok_law_take (w := w) (base := base) T F_law_take m_law_take 
  have H_c_law_mended := ok_law_mended (w := w) (base := base) T F_law_mended m_law_mended 
  have H_c_law_name := ok_law_name (w := w) (base := base) T F_law_name m_law_name H_c_law_take H_c_law_mended
  have H_c_law_near := ok_law_near (w := w) (base := base) T F_law_near m_law_near H_c_law_take H_c_law_mended
  have H_c_law_words := ok_law_words (w := w) (base := base) T F_law_words m_law_words H_c_law_name H_c_law_near
  have H_c_law_pool := ok_law_pool (w := w) (base := base) T F_law_pool m_law_pool H_c_law_take
  have H_c_law_signs := ok_law_signs (w := w) (base := base) T F_law_signs m_law_signs 
  have H_c_law_tip := ok_law_tip (w := w) (base := base) T F_law_tip m_law_tip H_c_law_take H_c_law_signs
  have H_c_law_grow_formula := ok_law_grow_formula (w := w) (base := base) T F_law_grow_formula m_law_grow_formula H_c_law_take
  have H_c_law_grown := ok_law_grown (w := w) (base := base) T F_law_grown m_law_grown H_c_law_take H_c_law_tip H_c_law_grow_formula
  have H_c_law_same := ok_law_same (w := w) (base := base) T F_law_same m_law_same 
  have H_c_law_extents := ok_law_extents (w := w) (base := base) T F_law_extents m_law_extents 
  have H_c_law_parts := ok_law_parts (w := w) (base := base) T F_law_parts m_law_parts 
  have H_c_law_spots := ok_law_spots (w := w) (base := base) T F_law_spots m_law_spots 
  have H_c_places := ok_places (w := w) (base := base) T F_places m_places 
  have H_c_child := ok_child (w := w) (base := base) T F_child m_child 
  have H_c_part_at := ok_part_at (w := w) (base := base) T F_part_at m_part_at H_c_child
  have H_c_law_ask_places := ok_law_ask_places (w := w) (base := base) T F_law_ask_places m_law_ask_places H_c_law_extents H_c_law_parts H_c_law_spots H_c_law_same H_c_places H_c_part_at
  have H_c_law_levels := ok_law_levels (w := w) (base := base) T F_law_levels m_law_levels 
  have H_c_spine := ok_spine (w := w) (base := base) T F_spine m_spine 
  have H_c_match_kind := ok_match_kind (w := w) (base := base) T F_match_kind m_match_kind 
  have H_c_read_formula := ok_read_formula (w := w) (base := base) T F_read_formula m_read_formula H_c_spine H_c_match_kind
  have H_c_law_read := ok_law_read (w := w) (base := base) T F_law_read m_law_read 
  have H_c_law_spine := ok_law_spine (w := w) (base := base) T F_law_spine m_law_spine 
  have H_c_law_ask_reading := ok_law_ask_reading (w := w) (base := base) T F_law_ask_reading m_law_ask_reading H_c_law_extents H_c_law_parts H_c_law_levels H_c_law_same H_c_read_formula H_c_law_read H_c_spine H_c_law_spine
  have H_c_law_built := ok_law_built (w := w) (base := base) T F_law_built m_law_built H_c_law_extents H_c_law_parts
  have H_c_app := ok_app (w := w) (base := base) T F_app m_app 
  have H_c_const := ok_const (w := w) (base := base) T F_const m_const 
  have H_c_nested := ok_nested (w := w) (base := base) T F_nested m_nested H_c_app H_c_const
  have H_c_conjunction := ok_conjunction (w := w) (base := base) T F_conjunction m_conjunction H_c_nested
  have H_c_law_conjunction := ok_law_conjunction (w := w) (base := base) T F_law_conjunction m_law_conjunction H_c_conjunction
  have H_c_disjunction := ok_disjunction (w := w) (base := base) T F_disjunction m_disjunction H_c_nested
  have H_c_law_disjunction := ok_law_disjunction (w := w) (base := base) T F_law_disjunction m_law_disjunction H_c_disjunction
  have H_c_implication := ok_implication (w := w) (base := base) T F_implication m_implication H_c_nested
  have H_c_law_implication := ok_law_implication (w := w) (base := base) T F_law_implication m_law_implication H_c_implication
  have H_c_law_nested := ok_law_nested (w := w) (base := base) T F_law_nested m_law_nested 
  have H_c_negation := ok_negation (w := w) (base := base) T F_negation m_negation H_c_app H_c_const
  have H_c_law_ask_joined := ok_law_ask_joined (w := w) (base := base) T F_law_ask_joined m_law_ask_joined H_c_law_take H_c_law_grown H_c_law_built H_c_law_same H_c_law_conjunction H_c_law_disjunction H_c_law_implication H_c_law_nested H_c_negation
  have H_c_fun_kind := ok_fun_kind (w := w) (base := base) T F_fun_kind m_fun_kind 
  have H_c_kind_within := kw_all (w := w) (base := base) T F_kind_within m_kind_within 130
  have H_c_equation := ok_equation (w := w) (base := base) T F_equation m_equation H_c_app H_c_fun_kind H_c_const H_c_kind_within
  have H_c_law_ask_equation := ok_law_ask_equation (w := w) (base := base) T F_law_ask_equation m_law_ask_equation H_c_law_take H_c_law_grown H_c_law_built H_c_law_same H_c_equation H_c_read_formula
  have H_c_law_abstracted := ok_law_abstracted (w := w) (base := base) T F_law_abstracted m_law_abstracted H_c_law_levels
  have H_c_abstracted := abs_all (w := w) (base := base) T F_abstracted m_abstracted 130
  have H_c_abstract := ok_abstract (w := w) (base := base) T F_abstract m_abstract H_c_abstracted
  have H_c_lam := ok_lam (w := w) (base := base) T F_lam m_lam H_c_abstract
  have H_c_quantified := ok_quantified (w := w) (base := base) T F_quantified m_quantified H_c_app H_c_fun_kind H_c_const H_c_lam
  have H_c_for_all := ok_for_all (w := w) (base := base) T F_for_all m_for_all H_c_quantified
  have H_c_for_some := ok_for_some (w := w) (base := base) T F_for_some m_for_some H_c_quantified
  have H_c_law_ask_quantified := ok_law_ask_quantified (w := w) (base := base) T F_law_ask_quantified m_law_ask_quantified H_c_law_take H_c_law_grown H_c_law_built H_c_law_same H_c_law_abstracted H_c_for_all H_c_for_some
  exact law_ok T F_law H_c_law_pot H_c_law_words H_c_law_pool H_c_law_take H_c_law_grown H_c_law_same H_c_law_ask_places H_c_law_ask_reading H_c_law_ask_joined H_c_law_ask_equation H_c_law_ask_quantified
end K03
open PySem PySem.W PySem.Calls PyProof.Rows
theorem PySem.Challenge.cw_lemmahall_k03_formulas_and_places_holds : PySem.Challenge.rw_lemmahall_k03_formulas_and_places.Holds := by
  w_on; o_law
  refine HandSHeadRun.head_any (r := OpenLaw.row PySem.Challenge.rw_lemmahall_k03_formulas_and_places) (q := view (OpenLaw.row PySem.Challenge.rw_lemmahall_k03_formulas_and_places).prog [60]) (H := K03.hk) (ob := K03.ob) (M := 3000) (loose := K03.loose) (d := HandSHeadRun.topDef (OpenLaw.row PySem.Challenge.rw_lemmahall_k03_formulas_and_places).prog 60) (kwd := []) K03.ob_eq
    (by kernel_rfl) (fun s => by kernel_rfl) K03.run (by kernel_rfl) (by kernel_rfl) (by kernel_rfl) (by rfl) (by first | assumption | decide +kernel) (by decide +kernel) ⟨rfl, rfl, rfl, rfl, rfl, by decide +kernel⟩ ?hw ?hc
  case hw => w_witness2
  case hc =>
    refine L2.walk_ofG (l := PySem.Challenge.rw_lemmahall_k03_formulas_and_places) (n := 63) (k := 137) (x := "script") (CX := L2.CX0) rfl (by decide) (by kernel_rfl) ⟨rfl, by decide, by decide⟩ ?F (fun _ _ _ _ z => z)
    intro w mg fa h Y G hmg0
    obtain ⟨K, KX, c⟩ := Y
    have hmg : mg ("law" : PySem.Str) = some (.ref fa) := by
      have e : (HandSHeadRun.topDef (OpenLaw.row PySem.Challenge.rw_lemmahall_k03_formulas_and_places).prog 60).name = ("law" : PySem.Str) := by kernel_rfl
      rw [← e]
      exact hmg0
    obtain ⟨fd, hb, hF⟩ := K03.facts (w := w) KX G hmg c
    exact ⟨K, fd, K03.sp_law K, KX, hb, fun H a ns hl _ hS => ⟨L2.V.ref a, rfl, a, ns, rfl, hS, hl, fun _ => rfl⟩, hF⟩
