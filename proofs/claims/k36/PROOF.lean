import PyProof.Rows.All
import Wide.All
import OpenK.AllK
import Wide.FinOn
import PyProof.EqAt
import PyProof.EqKinds
import PyProof.TupleCall
import PyProof.FString
import KE.KExcSuper
import HandS.ForSpec
import HandS.Codes
import KE.KExcIs
import KE.KIsAll
import HandS.ExcField
import HandS.ExcIs
import HandS.TryMany
import PyProof.StrBlock2
import HandS.ForMost
import HandS.Defaults
import HandS.Flow
import HandS.IsInst
import HandS.Wide
import HandS.Evl
import HandS.Comp
import KE.KStateDown
import HandS.Head0
import HandS.Head1
import HandS.Head2
import HandS.HeadEnd
import HandS.HeadHook2
import HandS.HeadHook3
import HandS.Text
import HandS.StrMore
import HandS.SetFor
import HandS.More
import HandS.Dict
import PyProof.SeqRoads2
import PySem.Challenge.RW_lemmahall_k36_whole_book_texts
set_option Elab.async false
set_option linter.all false
set_option maxRecDepth 100000
set_option maxHeartbeats 4000000
/-! Exceptions of the program: classes over ValueError whose __init__ says super().__init__(text) and then stores its arguments. -/
namespace PySem
namespace HallX
open PySem.W PySem.Calls PyProof.Rows PySem.HandSPX
/-! ### the method-wrapper of ValueError.__init__ -/
section
variable {prog : Program} {w : World} {A : Around} {E : Value → Shared → Prop} {h : Heap} {g : Array GenState} {d : Drawn} {t : Nat} {os : OsState}
variable {nm q : Str} {C N : Addr} {bs bm : List Value} {sn : List Str} {sub : List Value} {ab : Bool} {col : Option Bool} {dd : Option Addr} {k0 k1 k2 k3 k5 : Option Value}
theorem call_bw {u e t0 : Addr} {rest : List Value} {Q : Value → Shared → Prop}
    (hC : h.get? C = some (excClassObj nm q C N bs bm true sn sub ab col dd k0 k1 k2 k3 k5 "ValueError.__new__")) (he : h.get? e = some (excO C t0)) (hu : h.get? u = some (kxs_mw "ValueError.__init__" e)) (hrest : rest.length ≤ sizeLine)
    (hq : ∀ h' t1, (∀ b o, b ≠ e → h.get? b = some o → h'.get? b = some o) → h'.get? e = some (excO C t1) → Q .none ⟨h', g, d, t, os⟩) :
    wpAny (model prog w) A (call (.ref u) rest) Q E ⟨h, g, d, t, os⟩ := by
  refine wpAny_call (codeAny_of_tree ?_)
  show wpAny _ A.in1 (callAny (.ref u) ⟨rest, []⟩) _ _ _
  simp only [callAny]
  refine wpAny_bind (wpAny_load hu ?_)
  simp only [kxs_mw, show (Value.type "method-wrapper" == Value.type "method" || Value.type "method-wrapper" == Value.type "builtin_function_or_method" || Value.type "method-wrapper" == Value.type "method-wrapper") = true by decide, if_true]
  refine KFB.if_so (by decide) ?_
  refine wpAny_bind (check_bound_init F.excBase_ValueError.toExcCallFacts hC he rfl ?_)
  refine wpAny_bind (wpAny_pure (wpAny_pure ?_))
  refine ⟨plainId_quiet F.excBase_ValueError.init.plain _, codeAny_builtin F.excBase_ValueError.initEntry ?_⟩
  exact exc_init_tree (cls := .ref C) (t0 := t0) (dv := none) (c2 := .none) (c3 := .none) (b4 := .bool false) he hrest fun h' k e' _ => hq h' h.objs.size k e'
end
/-! ### the class, as the top has written it -/
structure HallTxt (prog : Program) (K : Frag) (mg : Str → Option Value) (x : Str) (C fI cc cda : Addr) (qual : Str) (params : Arguments) (body : List Stmt) (scope : Scope) : Prop where
  gC : mg x = some (.ref C)
  cls : ∃ nm q N bs bm sn sub ab col dd k0 k1 k2 k3 k5, K.lookup C = some (excClassObj nm q C N bs bm true sn sub ab col dd k0 k1 k2 k3 k5 "ValueError.__new__") ∧ refsVE bm = true
  sup : ks_superIn K C C "__init__" = some (some (.builtin "ValueError.__init__"))
  sa : findIn K (.ref C) "__setattr__" = some (some (.builtin "object.__setattr__"))
  ga : findIn K (.ref C) "__getattribute__" = some (some (.builtin "BaseException.__getattribute__"))
  gg : findIn K (.ref C) "__getattr__" = some none
  iC : findIn K (.ref C) "__init__" = some (some (.ref fI))
  tI : typeIn K (.ref fI) = some (.type "function")
  kC : keepIn K (.ref C) = true
  exC : subIn K (.ref C) (.type "BaseException") = some true
  tyC : typeIn K (.ref C) = some (.type "type")
  hdC : hasDictIn K C = true
  ve : subIn K (.ref C) (.type "ValueError") = some true
  self : mroIn K C (.ref C) = some true
  fn : ∃ oc od dV kV doc pm an ct osl, K.lookup fI = some ⟨oc, od, .func (ksFn "__init__" qual params body scope dV kV doc pm an (.ref cda) ct cc), osl⟩ ∧ codeIn K (.ref cda) qual = true ∧ dV = Value.none
  code : ∃ ccl cdd vs ccs tf, K.lookup cda = some ⟨ccl, cdd, .fields vs, ccs⟩ ∧ vs[2]? = some (.str prog.main.file tf)
  cell : ∃ cl cld csl, K.lookup cc = some ⟨cl, cld, .cell (some (.ref C)), csl⟩
  stat : nsIn K cStatics "thirdparty.any" = some none
  sup0 : mg "super" = none
  top0 : (prog.main.scope.names.lookup ("super" : Str)).isSome = false
/-- a message: a text is made, nothing else happens -/
def MsgOk (prog : Program) (w : World) (env : Env) (L : Addr) (m : Str → Option Value) (e : Expr) : Prop :=
  ∀ (A : Around) (E : Value → Shared → Prop) (s : Shared) (Q : Value → Shared → Prop), s.heap.Ns L m → (∀ z tk tk', Q (.str z tk) { s with toks := tk' }) → wpAny (model prog w) A (eval e env) Q E s
section
variable {prog : Program} {w : World} {A : Around} {E : Value → Shared → Prop} {R : Result → Shared → Prop} {s : Shared} {K : Frag} {mg mb : Str → Option Value} {x : Str} {C fI cc cda : Addr} {qual : Str} {params : Arguments} {body : List Stmt} {scope : Scope}
theorem msg_const {env : Env} {L : Addr} {m : Str → Option Value} {z : Str} {j} {pos : Pos} : MsgOk prog w env L m (.Constant (.str z) j pos) := fun A E s Q _ h => Calls.Constant_str (h z _ _)
theorem ldv {env : Env} {L : Addr} {m : Str → Option Value} {y : Str} {pos : Pos} {v : Value} {Q : Value → Shared → Prop} (hn : s.heap.Ns L m) (hL : env.locals = L) (hv : m y = some v) (h : Q v s)
    (hk : env.scope.kind = .function) (hl : env.kindOf y = some .local) (hd : (y == ("__debug__" : Str)) = false) : wpAny (model prog w) A (eval (.Name y pos) env) Q E s := by
  subst hL
  exact wpAny_Name (wpAny_loadName_local hk hl hn hv h) hd
theorem evalEach_nil (env : Env) : evalEach [] env = [] := by first | rfl | simp [evalEach]
theorem evalEach_cons (e : Expr) (es : List Expr) (env : Env) : evalEach (e :: es) env = eval e env :: evalEach es env := by first | rfl | simp [evalEach]
/-- f"text{y}" -/
theorem msg_f2 {env : Env} {L : Addr} {m : Str → Option Value} {z y : Str} {j} {p1 p2 p3 pos : Pos} {i : Int} {ti : Tok} (hL : env.locals = L) (hv : m y = some (.int i ti)) (hi : i.natAbs.log2 < 1920) (hz : z.length + (toString i : Str).length ≤ sizeLine)
    (hk : env.scope.kind = .function) (hl : env.kindOf y = some .local) (hd : (y == ("__debug__" : Str)) = false) :
    MsgOk prog w env L m (.JoinedStr [.Constant (.str z) j p1, .FormattedValue (.Name y p2) (-1) none p3] pos) := fun A E s Q hn h => by
  refine wpAny_JoinedStr ?_
  rw [evalEach_cons, evalEach_cons, evalEach_nil]
  have e0 : (Str.empty ++ z) = z := by
    obtain ⟨a⟩ := z
    show (⟨#[] ++ a⟩ : Str) = ⟨a⟩
    simp
  refine Calls.Constant_str ⟨z, _, rfl, ?_, ?_⟩
  · rw [e0]; omega
  · rw [e0]
    refine wpAny_FormattedValue_plain (ldv (s := { s with toks := s.toks + 1 }) hn hL hv ?_ hk hl hd)
    refine wpAny_formatField_int hi ⟨_, _, rfl, ?_, ?_, ?_⟩
    · rw [Str.length_append]; exact hz
    · rw [Str.length_append]; exact hz
    · exact h _ _ _
/-- what super().__init__(msg) leaves -/
theorem super_init {pl : Sem Bool} {e t0 L : Addr} {m : Str → Option Value} {msg : Expr} {p0 p1 p2 p3 p4 : Pos} {Q : Flow → Shared → Prop} {ar : Arg} (T : HallTxt prog K mg x C fI cc cda qual params body scope)
    (X : K.In s.heap) (G : s.heap.Ns mainGlobals mg) (Gb : s.heap.Ns builtinsNs mb) (hb : mb "super" = some (.type "super")) (hn : s.heap.Ns L m) (he : s.heap.get? e = some (excO C t0)) (hne : K.lookup e = none)
    (har : (params.posonlyargs ++ params.args).head? = some ar) (hself : m ar.arg = some (.ref e))
    (hks : scope.names.lookup ("super" : Str) = some .globalImplicit) (hkc : scope.names.lookup ("__class__" : Str) = some .free) (hka : scope.names.lookup ar.arg = some .local) (hk : scope.kind = .function)
    (hm : MsgOk prog w (ksEnv qual scope L fI (.ref cda) cc) L m msg)
    (hst : starEach [msg] (ksEnv qual scope L fI (.ref cda) cc) = [(false, eval msg (ksEnv qual scope L fI (.ref cda) cc))])
    (hev : eval (.Call (.Attribute (.Call (.Name "super" p0) [] [] p1) "__init__" p2) [msg] [] p3) (ksEnv qual scope L fI (.ref cda) cc) = (do
      let ov ← attributeBase (.Call (.Name "super" p0) [] [] p1) "__init__" (ksEnv qual scope L fI (.ref cda) cc) (eval (.Call (.Name "super" p0) [] [] p1) (ksEnv qual scope L fI (.ref cda) cc))
      standAt p2.atName
      let (f, first) ← holding [ov] (getMethod ov "__init__" pl)
      callWith p3 f first (backTo p3 (starEach [msg] (ksEnv qual scope L fI (.ref cda) cc))) []))
    (hq : ∀ h' tk t1, (∀ b o, b ≠ e → s.heap.get? b = some o → h'.get? b = some o) → h'.get? e = some (excO C t1) → Q .next { s with heap := h', toks := tk }) :
    _root_.PySem.wpAt (model prog w) A (.func body (ksEnv qual scope L fI (.ref cda) cc)) (exec (.Expr (.Call (.Attribute (.Call (.Name "super" p0) [] [] p1) "__init__" p2) [msg] [] p3) p4) (ksEnv qual scope L fI (.ref cda) cc)) Q E s := by
  obtain ⟨hh, g, d, t, os⟩ := s
  obtain ⟨nm, q, N, bs, bm, sn, sub, ab, col, dd, k0, k1, k2, k3, k5, hC, hbm⟩ := T.cls
  obtain ⟨oc, od, dV, kV, doc, pm, an, ct, osl, hf, hcd, _⟩ := T.fn
  obtain ⟨ccl, cdd, vs, ccs, tf, hcode, hvs⟩ := T.code
  obtain ⟨cl, cld, csl, hcell⟩ := T.cell
  have hcl : clsIn K C = some { name := nm, bases := bs, mro := .ref C :: bm, ns := N, qualname := q, hasDict := true, slotNames := sn, subclasses := sub, abstract := ab, collection := col, hasDel := false } := by unfold clsIn; rw [hC] <;> rfl
  have eC : e ≠ C := fun z => by rw [z, hC] at hne; cases hne
  have hint : interactive (ksEnv qual scope L fI (.ref cda) cc) = false := by
    show (scope.kind == .module && _) = false
    rw [hk] <;> rfl
  refine ks_wpAt_Expr_any (ks_wpAt_MethodCall (pl := pl) ?_ hev) hint rfl
  · refine ks_wpAt_super_base (env := ksEnv qual scope L fI (.ref cda) cc) hks hkc (by decide) rfl (X _ _ hf) rfl har rfl (X _ _ hcode) rfl hvs (by simp) T.top0 ?_
    refine ks_loadName_global hk hks (loadGlobal_builtin (env := ksEnv qual scope L fI (.ref cda) cc) G T.sup0 Gb hb ⟨rfl, ?_⟩)
    refine wpAny_loadName_free hk hkc rfl ⟨_, X _ _ hcell, rfl⟩ ?_
    refine wpAny_loadName_local hk hka hn hself ?_
    refine ks_wpAny_isType_cls (X _ _ hC) rfl ⟨rfl, ?_⟩
    refine ks_wpAny_call_super (X _ _ hC) rfl he rfl (fun c z => by cases z) (looks_mroIn X T.self) (fun h1 hso k1' => ?_)
    have X1 : K.In h1 := X.keeps k1'
    have he1 := k1' _ _ he
    have hmro : Looks (model prog w) h1 (mroOf (.ref C)) (.ref C :: bm) := fun A Q E s k q => wpAny_bind ((looks_clsIn X1 hcl) A _ E s k (wpAny_pure q))
    have hsup : alongIn K "__init__" (((Value.ref C :: bm).dropWhile (· != .ref C)).drop 1) = some (some (.builtin "ValueError.__init__")) := by
      have z := T.sup
      unfold ks_superIn at z
      rw [hcl] at z
      exact z
    have I1 : InstAt h1 e (excO C t0) C none := ⟨he1, rfl, rfl, trivial⟩
    refine kxs_getMethod kxs_ValueError hso (looks_opaque X1 T.stat) hmro rfl X1 hsup (I1.type.andThen (looks_subIn X1 T.ve)) eC (by decide) ?_
    have hu : (h1.push (kxs_mw "ValueError.__init__" e)).get? h1.objs.size = some (kxs_mw "ValueError.__init__" e) := Heap.get?_push_at rfl rfl
    have k2' : ∀ b o, hh.get? b = some o → (h1.push (kxs_mw "ValueError.__init__" e)).get? b = some o := fun b o z => Heap.get?_push_of_some _ (k1' b o z)
    refine kxs_callWith (i := "ValueError.__init__") (x := e) (by rw [hst] <;> rfl) ?_
    rw [hst]
    refine evalArgs_plain ?_
    show wpAny _ _ (spliced [(false, eval msg (ksEnv qual scope L fI (.ref cda) cc))]) _ _ _
    refine Calls.spliced_cons (hm _ _ ⟨h1.push (kxs_mw "ValueError.__init__" e), g, d, t + 1, os⟩ _ (hn.keeps k2') (fun z tk tk' => ?_))
    refine Calls.spliced_nil ⟨hu, ?_⟩
    refine call_bw (X1.keeps (fun b o z => Heap.get?_push_of_some _ z) _ _ hC) (k2' _ _ he) hu (by show 1 ≤ sizeLine; rw [sizeLine_eq]; decide) (fun h' t1 k3' e' => ?_)
    exact hq h' _ t1 (fun b o hbe ho => k3' b o hbe (k2' b o ho)) e'
/-- what __init__ leaves of a fresh exception at e -/
structure InitEnd (h h' : Heap) (e C dx : Addr) (y : Str) (v : Value) : Prop where
  keep : ∀ b o, b ≠ e → h.get? b = some o → h'.get? b = some o
  obj : ∃ t1, h'.get? e = some { cls := .ref C, dict := some dx, data := .fields #[.ref t1, .none, .none, .none, .bool false, .none] }
  dbig : h.objs.size ≤ dx
  dne : dx ≠ e
  ns : h'.Ns1 dx (fun z => if z = y then some v else none)
/-- a made exception -/
structure OwnMade (h h' : Heap) (e C d : Addr) (y : Str) (v : Value) : Prop where
  keep : ∀ b o, h.get? b = some o → h'.get? b = some o
  new : h.objs.size ≤ e
  obj : ∃ oe vs, h'.get? e = some oe ∧ oe.cls = .ref C ∧ oe.dict = some d ∧ oe.data = .fields vs ∧ vs[1]? = some .none
  dbig : h.objs.size ≤ d
  dne : d ≠ e
  ns : h'.Ns1 d (fun z => if z = y then some v else none)
/-- __init__(self, y): super().__init__(msg); self.y = y -/
structure Init1 (prog : Program) (w : World) (y : Str) (ok : Value → Prop) (qual : Str) (params : Arguments) (body : List Stmt) (scope : Scope) : Prop where
  head : ∃ a1 : Arg, a1.arg = "self" ∧ (params.posonlyargs ++ params.args).head? = some a1
  bind : ∀ (kV doc pm : Value) (an : Option Addr) (cdv ct : Value) (cc : Addr) (u v : Value), bindArgs (ksFn "__init__" qual params body scope .none kV doc pm an cdv ct cc) ⟨[u, v], []⟩ = pure [(("self" : Str), u), (y, v)]
  bd : ∃ (p0 p1 p2 p3 p4 q1 q2 q3 q4 : Pos) (msg : Expr) (pl : Sem Bool), body = [.Expr (.Call (.Attribute (.Call (.Name "super" p0) [] [] p1) "__init__" p2) [msg] [] p3) p4, .Assign [.Attribute (.Name "self" q1) y q2] (.Name y q3) q4] ∧
    (∀ (L fI cc : Addr) (cd : Value) (m : Str → Option Value) (v : Value), m y = some v → ok v → MsgOk prog w (ksEnv qual scope L fI cd cc) L m msg) ∧
    (∀ (env : Env), env.scope = scope → starEach [msg] env = [(false, eval msg env)]) ∧
    (∀ (env : Env), env.scope = scope → eval (.Call (.Attribute (.Call (.Name "super" p0) [] [] p1) "__init__" p2) [msg] [] p3) env = (do
      let ov ← attributeBase (.Call (.Name "super" p0) [] [] p1) "__init__" env (eval (.Call (.Name "super" p0) [] [] p1) env)
      standAt p2.atName
      let (f, first) ← holding [ov] (getMethod ov "__init__" pl)
      callWith p3 f first (backTo p3 (starEach [msg] env)) []))
  hys : (y == ("self" : Str)) = false
  hyd : (y == ("__debug__" : Str)) = false
  hks : scope.names.lookup ("super" : Str) = some .globalImplicit
  hkc : scope.names.lookup ("__class__" : Str) = some .free
  hka : scope.names.lookup ("self" : Str) = some .local
  hky : scope.names.lookup y = some .local
  hk : scope.kind = .function
  hco : scope.isCoroutine = false
  hgen : scope.isGenerator = false
  hcell : ∀ x ∈ scope.names, x.2 ≠ .cell
theorem hall_init {e t0 : Addr} {v : Value} {y : Str} {ok : Value → Prop} (T : HallTxt prog K mg x C fI cc cda qual params body scope) (I : Init1 prog w y ok qual params body scope) (no : findIn K (.ref C) y = some none)
    (X : K.In s.heap) (G : s.heap.Ns mainGlobals mg) (Gb : s.heap.Ns builtinsNs mb) (hb : mb "super" = some (.type "super")) (hlim : s.heap.NoLimit) (he : s.heap.get? e = some (excO C t0)) (hne : K.lookup e = none)
    (hroom : A.depth < recursionLimit) (hv : ok v)
    (hq : ∀ h' tk dx, InitEnd s.heap h' e C dx y v → R (.ok (.ret .none)) { s with heap := h', toks := tk }) :
    codeAny (model prog w) A (.call (.ref fI) ⟨[.ref e, v], []⟩) R s := by
  obtain ⟨nm, q, N, bs, bm, sn, sub, ab, col, dd, k0, k1, k2, k3, k5, hC, hbm⟩ := T.cls
  obtain ⟨oc, od, dV, kV, doc, pm, an, ct, osl, hf, hcd, hdv⟩ := T.fn
  obtain ⟨p0, p1, p2, p3, p4, q1, q2, q3, q4, msg, pl, rfl, hm, hst, hev⟩ := I.bd
  have hcl : clsIn K C = some { name := nm, bases := bs, mro := .ref C :: bm, ns := N, qualname := q, hasDict := true, slotNames := sn, subclasses := sub, abstract := ab, collection := col, hasDel := false } := by unfold clsIn; rw [hC] <;> rfl
  refine ks_codeAny_call_defAt (body := _) (binds := [(("self" : Str), .ref e), (y, v)]) hroom (X _ _ hf) rfl hlim (codeRec_of X hcd) rfl (by subst hdv; exact BindsTo.of_eq (I.bind _ _ _ _ _ _ _ _ _)) I.hcell (fun z hz => ?_) (fun h₁ hns hk₁ => ?_) I.hco I.hgen I.hk
  · rcases List.mem_cons.mp hz with rfl | hz
    · exact I.hka
    rcases List.mem_cons.mp hz with rfl | hz
    · exact I.hky
    · cases hz
  · show _root_.PySem.wpAt (model prog w) _ (.func _ (ksEnv qual scope s.heap.objs.size fI (.ref cda) cc)) (execs _ (ksEnv qual scope s.heap.objs.size fI (.ref cda) cc)) _ _ _
    have my : (fun z => ([(("self" : Str), Value.ref e), (y, v)] : List (Str × Value)).reverse.lookup z) y = some v := by
      show List.lookup y ([(y, v), (("self" : Str), Value.ref e)] : List (Str × Value)) = some v
      simp [List.lookup]
    have ms : (fun z => ([(("self" : Str), Value.ref e), (y, v)] : List (Str × Value)).reverse.lookup z) "self" = some (.ref e) := by
      show List.lookup ("self" : Str) ([(y, v), (("self" : Str), Value.ref e)] : List (Str × Value)) = some (.ref e)
      have z : (("self" : Str) == y) = false := by
        have z := I.hys
        rw [beq_eq_false_iff_ne] at z ⊢
        exact fun w => z w.symm
      simp [List.lookup, z]
    have eL : s.heap.objs.size ≠ e := Nat.ne_of_gt (Heap.lt_size he)
    obtain ⟨a1, ha1, hpar⟩ := I.head
    refine ks_wpAt_execs_cons (super_init (t0 := t0) (mb := mb) (pl := pl) (ar := a1) T (X.keeps hk₁) (G.keeps hk₁) (Gb.keeps hk₁) hb hns (hk₁ _ _ he) hne hpar (by rw [ha1]; exact ms) I.hks I.hkc (by rw [ha1]; exact I.hka) I.hk
      (hm _ _ _ _ _ v my hv) (hst _ rfl) (hev _ rfl) (fun h' tk t1 k' e' => ?_))
    have X' : K.In h' := fun a o z => by
      have hae : a ≠ e := fun w => by rw [w, hne] at z; cases z
      exact k' a o hae (hk₁ _ _ (X a o z))
    have hns' : h'.Ns s.heap.objs.size (fun z => ([(("self" : Str), Value.ref e), (y, v)] : List (Str × Value)).reverse.lookup z) := hns.at fun o z => k' _ o eL z
    refine _root_.PySem.wpAt_of_wpAny ?_
    show wpAny _ _ (execs [_] _) _ _ _
    refine wpAny_execs_cons (plainObj_wpAny_Assign_Attribute ?_)
    refine ldv hns' rfl my (ldv hns' rfl ms ?_ I.hk I.hka (by decide)) I.hk I.hky I.hyd
    refine set_plain X' (ox := excO C t1) (od := none) ⟨e', rfl, rfl, trivial⟩ T.sa ?_
    refine exc_osa X' e' hcl (show refsVE (.ref C :: bm) = true from hbm) rfl no (fun h₃ tk₃ dx k₃ dn dne hx₃ hn₃ => ?_)
    show wpAny _ _ (execs _ _) _ _ _
    have z : s.heap.objs.size ≤ dx := by
      have z1 : s.heap.objs.size < h'.objs.size := hns'.lt
      have z2 : h'.objs.size ≤ dx := dn
      exact Nat.le_of_lt (Nat.lt_of_lt_of_le z1 z2)
    exact wpAny_execs_nil (hq h₃ tk₃ dx ⟨fun b o hbe z => k₃ b o hbe (k' b o hbe (hk₁ b o z)), ⟨t1, hx₃⟩, z, dne, hn₃⟩)
theorem hall_made {v : Value} {y : Str} {ok : Value → Prop} (T : HallTxt prog K mg x C fI cc cda qual params body scope) (I : Init1 prog w y ok qual params body scope) (no : findIn K (.ref C) y = some none)
    (X : K.In s.heap) (G : s.heap.Ns mainGlobals mg) (Gb : s.heap.Ns builtinsNs mb) (hb : mb "super" = some (.type "super")) (hlim : s.heap.NoLimit) (hroom : A.depth + 1 < recursionLimit) (hv : ok v)
    (hq : ∀ h' tk e d, OwnMade s.heap h' e C d y v → R (.ok (.ret (.ref e))) { s with heap := h', toks := tk }) :
    codeAny (model prog w) A (.call (.ref C) ⟨[v], []⟩) R s := by
  obtain ⟨nm, q, N, bs, bm, sn, sub, ab, col, dd, k0, k1, k2, k3, k5, hC, hbm⟩ := T.cls
  obtain ⟨hp, g, dr, tk, os⟩ := s
  have k : ∀ b o, hp.get? b = some o → ((hp.push (kdv_tup [v])).push (excO C hp.objs.size)).get? b = some o := fun b o e => Heap.get?_push_of_some _ (Heap.get?_push_of_some _ e)
  have hget : ((hp.push (kdv_tup [v])).push (excO C hp.objs.size)).get? (hp.objs.size + 1) = some (excO C hp.objs.size) := by heap_get
  have hnx : K.lookup (hp.objs.size + 1) = none := by
    cases e : K.lookup (hp.objs.size + 1) with
    | none => rfl
    | some o =>
      have z : hp.get? (hp.objs.size + 1) = some o := X _ _ e
      exact absurd (Nat.lt_of_succ_lt (Heap.lt_size z)) (Nat.lt_irrefl _)
  refine call_own F.excBase_ValueError (fun X => refsVE_contains X bm hbm) (X _ _ hC) (looks_findIn X T.iC) (fun self => bind_fn X self T.tI) (by show 1 ≤ sizeLine; rw [sizeLine_eq]; decide) ?_
  refine hall_init (s := ⟨(hp.push (kdv_tup [v])).push (excO C hp.objs.size), g, dr, tk, os⟩) T I no (X.keeps k) (G.keeps k) (Gb.keeps k) hb (hlim.keeps k) hget hnx ?_ hv fun h' tk' dx ⟨k', hx, dn, dne, hns⟩ => ?_
  · show A.depth + 1 < recursionLimit
    exact hroom
  · have old : ∀ b o, hp.get? b = some o → h'.get? b = some o := fun b o e => k' b o (Nat.ne_of_lt (Nat.lt_succ_of_lt (Heap.lt_size e))) (k b o e)
    have z : hp.objs.size + 1 + 1 ≤ dx := by
      first
        | (simpa only [Heap.size_push] using dn)
        | exact dn
        | (have q := dn; rw [Heap.size_push, Heap.size_push] at q; exact q)
    obtain ⟨t1, hx⟩ := hx
    exact ⟨rfl, hq h' tk' (hp.objs.size + 1) dx ⟨old, Nat.le_succ _, ⟨_, _, hx, rfl, rfl, rfl, rfl⟩, Nat.le_trans (Nat.le_trans (Nat.le_succ _) (Nat.le_succ _)) z, dne, hns⟩⟩
end
end HallX
end PySem
namespace L2
open PySem PySem.Spec PyProof.Rows PySem.HallX
theorem relO_one {v : V} {v' : Value} (r : RelV v v') (y f : Str) : RelO (List.lookup f [(y, v)]) (if f = y then some v' else none) := by
  by_cases hw : f = y
  · subst hw
    rw [if_pos rfl]
    have q : List.lookup f [(f, v)] = some v := by simp [List.lookup]
    rw [q]
    exact r
  · rw [if_neg hw]
    have qw : (f == y) = false := by simpa using hw
    have q2 : List.lookup f [(y, v)] = none := by simp [List.lookup, qw]
    rw [q2]
    trivial
theorem boot_super : bootBuiltins "super" = some (.type "super") := by first | rfl | kernel_rfl | decide +kernel
section
variable {X : Cx} {x y qual : Str} {C fI cc cda : Addr} {params : Arguments} {body : List Stmt} {scope : Scope}
/-- C(e) -/
def tMkH (C : Addr) (y : Str) (okV : V → Prop) (ta : TA) : St → Hp → XK → Prop := fun σ H Q => ta σ H fun vs H1 => ∃ v, vs = [v] ∧ okV v ∧ ∀ d, H1 d = none → Q (.ref C) (some d) (upd H1 d (.xd [(y, v)]))
theorem pmk_hall {a : Expr} {ta : TA} {p pos : Pos} {k : Nat} {ok : Value → Prop} {okV : V → Prop} (T : HallTxt X.prog X.K X.mg x C fI cc cda qual params body scope) (J : Init1 X.prog X.w y ok qual params body scope) (no : PySem.W.findIn X.K (.ref C) y = some none)
    (hok : ∀ v u, RelV v u → okV v → ok u) (hr : Room k X.A) (ha : PA X [a] ta) (hg : Gl X x) (hd : (x == ("__debug__" : Str)) = false := by decide)
    (he : starEach (a :: []) X.env = (false, eval a X.env) :: starEach [] X.env := by rfl) (hpl : (backTo pos (starEach [] X.env)).any (·.1) = false := by rfl) :
    PMk X (.Call (.Name x p) [a] [] pos) (tMkH C y okV ta) := by
  intro pins s σ H Q I h
  refine wpAny_Call_Name_kw (ld_glob I hg T.gC ?_ hd)
  refine PySem.W.callWith_K (h₀ := X.base) I.ok.mod.kin T.kC (thn (ha.run pos pins s σ H _ I h) fun us s1 hh => ?_) he hpl
  obtain ⟨vs, H1, I1, r1, v, ev, hov, q1⟩ := hh
  subst ev
  refine ⟨I1.kIn, ?_⟩
  cases r1 with
  | cons rv rn =>
    rename_i v' us'
    cases rn
    show wpAny _ _ (call (.ref C) [v']) _ _ _
    have hlim := I1.nolimit
    obtain ⟨mb, hb1, hb2⟩ := I1.mod.blt
    have G := I1.mod.glob.keeps I1.bk
    have Gb := hb1.keeps I1.bk
    have hb : mb "super" = some (.type "super") := (hb2 "super" (by decide)).trans boot_super
    have hkin := I1.kIn
    obtain ⟨hp, g, dr, tk, os⟩ := s1
    refine wpAny_call (hall_made (mb := mb) T J no hkin G Gb hb hlim (by have := hr.dp; omega) (hok _ _ rv hov) fun h' tk' e d M => ?_)
    show MkP X pins σ Q (.ref e) ⟨h', g, dr, tk', os⟩
    obtain ⟨oe, fv, hoe, hc, hd, hdat, h1⟩ := M.obj
    have hns := M.ns
    obtain ⟨G', g1, g2⟩ := restrict h' fun b => decide (b ≠ e)
    have gk : ∀ b, b ≠ e → G'.get? b = h'.get? b := fun b hb => g1 b (decide_eq_true hb)
    have ge : G'.get? e = none := g2 e (by simp)
    have old : ∀ b o, hp.get? b = some o → G'.get? b = some o := fun b o q => (gk b (Nat.ne_of_lt (Nat.lt_of_lt_of_le (Heap.lt_size q) M.new))).trans (M.keep b o q)
    have ob : ObjOk X.prog X.w (upd H1 d (.xd [(y, v)])) G' d (.xd [(y, v)]) :=
      ⟨_, hns.at (fun o q => (gk d M.dne).trans q), fun f => relO_one rv y f⟩
    have J : Inv X pins σ (upd H1 d (.xd [(y, v)])) ⟨G', g, dr, tk', os⟩ := I1.laid (t' := tk') old M.dbig ob
    refine ⟨e, oe, fv, ⟨G', g, dr, tk', os⟩, _, .ref C, some d, rfl, J, fun b o q => ?_, ge, hoe, ⟨hc, hd⟩, hdat, h1, ?_, rfl, I1.bare, raises_own T.exC T.tyC, q1 d (I1.hok.fresh M.dbig)⟩
    · by_cases hb : b = e
      · have q' : G'.get? b = some o := q
        rw [hb, ge] at q'; cases q'
      · exact (gk b hb).symm.trans q
    · rw [upd_ne (Ne.symm M.dne)]
      exact I1.hok.fresh M.new
/-- raise C(e) -/
def tRaiseH (C : Addr) (y : Str) (okV : V → Prop) (W : WX) (ta : TA) : TS := fun _ σ H => tMkH C y okV ta σ H fun cls d H' => W cls d σ H'
theorem ps_raiseH {a : Expr} {ta : TA} {W : WX} {p pos pos2 : Pos} {k : Nat} {ok : Value → Prop} {okV : V → Prop} (hc : X.calm = true) (T : HallTxt X.prog X.K X.mg x C fI cc cda qual params body scope) (J : Init1 X.prog X.w y ok qual params body scope) (no : PySem.W.findIn X.K (.ref C) y = some none)
    (hok : ∀ v u, RelV v u → okV v → ok u) (hr : Room k X.A) (tk : Takes X W) (ha : PA X [a] ta) (hg : Gl X x) (hd : (x == ("__debug__" : Str)) = false := by decide)
    (he : starEach (a :: []) X.env = (false, eval a X.env) :: starEach [] X.env := by rfl) (hpl : (backTo pos (starEach [] X.env)).any (·.1) = false := by rfl) :
    PS X (.Raise (some (.Call (.Name x p) [a] [] pos)) none pos2) (tRaiseH C y okV W ta) := ps_raise hc tk (pmk_hall T J no hok hr ha hg hd he hpl)
end
end L2

/-! several except clauses, with and without a name; isinstance of a caught error that has its dict -/
namespace L2
open PySem PySem.Spec PyProof.Rows
abbrev Clz : Type := Value × Option Nat × (Addr → Value → Option Addr → TS)
/-- behind a suite the name is unbound -/
def endsAs (i : Nat) (D : Ends) : Ends := { nx := fun σ H => D.nx (σ.set i none) H, rt := D.rt, bk := fun σ H => D.bk (σ.set i none) H, ct := fun σ H => D.ct (σ.set i none) H }
def wManyA (K : PySem.W.Frag) (Wout : WX) (D : Ends) : List Clz → WX
  | [] => Wout
  | (c, none, ts) :: r => fun cls d σ H => ∃ b, PySem.W.exmOne K cls c = some b ∧ (b = true → ∀ a, H a = none → ts a cls d D σ H) ∧ (b = false → wManyA K Wout D r cls d σ H)
  | (c, some i, ts) :: r => fun cls d σ H => ∃ b, PySem.W.exmOne K cls c = some b ∧ (b = true → ∀ a, H a = none → ts a cls d (endsAs i D) (σ.set i (some (.ref a))) H) ∧ (b = false → wManyA K Wout D r cls d σ H)
inductive HdsA (X : Cx) : List ExceptHandler → List Clz → Prop
  | nil : HdsA X [] []
  | bare {x : Str} {c : Value} {ts : Addr → Value → Option Addr → TS} {b₀ : Stmt} {suite : List Stmt} {np pos' : Pos} {hds : List ExceptHandler} {l : List Clz} (hc : Names X x c)
      (hsu : ∀ (a : Addr) (oe : Obj) (cls : Value) (d : Option Addr) (pn : List (Addr × Obj)), Zc cls d oe → (∃ vs, oe.data = .fields vs) → PSs (X.suite a ((a, oe) :: pn)) (b₀ :: suite) (ts a cls d)) (r : HdsA X hds l) :
      HdsA X (.ExceptHandler (some (.Name x np)) none (b₀ :: suite) pos' :: hds) ((c, none, ts) :: l)
  | as_ {x n : Str} {i : Nat} {c : Value} {ts : Addr → Value → Option Addr → TS} {b₀ : Stmt} {suite : List Stmt} {np pos' : Pos} {hds : List ExceptHandler} {l : List Clz} (hN : X.N.Nodup) (hi : X.N[i]? = some n) (hln : X.env.kindOf n = some .local) (hc : Names X x c)
      (hsu : ∀ (a : Addr) (oe : Obj) (cls : Value) (d : Option Addr) (pn : List (Addr × Obj)), Zc cls d oe → (∃ vs, oe.data = .fields vs) → PSs (X.suite a ((a, oe) :: pn)) (b₀ :: suite) (ts a cls d)) (r : HdsA X hds l) :
      HdsA X (.ExceptHandler (some (.Name x np)) (some n) (b₀ :: suite) pos' :: hds) ((c, some i, ts) :: l)
section
variable {X : Cx} {body : List Stmt} {h₀ : ExceptHandler} {hds : List ExceptHandler} {l : List Clz} {pos : Pos} {tb : WX → TS} {Wout : WX}
theorem ps_try_manyA (hs : X.stack = X.env :: X.outer) (hf : X.env.frame = some X.env.locals) (tk : Takes X Wout)
    (hb : ∀ (W : WX) (pn : List (Addr × Obj)) (xe : Value → Shared → Prop), Takes (X.tr pn xe) W → PassesOwn (model X.prog X.w) X.A X.env xe → PSs (X.tr pn xe) body (tb W))
    (hh : HdsA X (h₀ :: hds) l) : PS X (.Try body (h₀ :: hds) [] [] pos) (fun D σ H => tb (wManyA X.K Wout D l) D σ H) := by
  refine ⟨fun pins s σ H D I h => ?_⟩
  have ok := I.ok
  have hfr : X.A.frames = some (X.env :: X.outer) := by rw [ok.frames, hs]
  refine wpAny_Try_except ?_
  refine wpAny_mono ((hb (wManyA X.K Wout D l) (X.pn ++ pins) (fun e s₁ => wpAny (model X.prog X.w) X.A (noteFrame e X.env) (fun _ s₂ => wpAny (model X.prog X.w) X.A (setFlight e none) (fun _ s₃ =>
    wpAny (model X.prog X.w) X.A (handleBy e X.env (h₀ :: hds)) (SP X pins D) X.xe s₃) X.xe s₂) X.xe s₁) (fun u s' xx => ?_) PassesOwn.looking).run [] s σ H D (I.toTry _) h) (fun f s1 hsp => ?_) (fun e s1 he => he)
  · obtain ⟨a, B, sI, pins', σ', H', cls, d, rfl, J', nb, up, sky, na, os, ag, w⟩ := xx
    have J : Inv X pins σ' H' sI := J'.ofTry ok
    have sky' : Sky B (X.env :: X.outer) a (Zc cls d) X.env.locals s'.heap := by rw [← hs]; exact sky
    show wpAny (model X.prog X.w) X.A (noteFrame (.ref a) X.env) _ _ _
    refine Sky.land Zc.steady hfr hf sky' fun h3 fl3 up3 => ?_
    have J3 : Inv X pins σ' H' { s' with heap := h3 } := J.landed nb fl3.1 (up.trans up3) os ag
    obtain ⟨oe3, vs3, he3, hz3, hd3⟩ := fl3.there
    have notFr : ∀ {h : Heap} {o : Obj} {vs : Array Value}, h.FunFrames B (X.env :: X.outer) → h.get? a = some o → o.data = .fields vs → a ∉ frs (X.env :: X.outer) := fun {h o vs} ff e dd hm => by
      obtain ⟨_, o', e', hnf⟩ := ff.mem hm
      rw [e] at e'; cases e'
      exact hnf _ dd
    have nfr := notFr fl3.2.2.1 he3 hd3
    have nL : a ≠ X.env.locals := fun z => nfr (List.mem_filterMap.mpr ⟨X.env, List.mem_cons_self, by rw [hf, z]⟩)
    have nF : a ∉ X.fs := fun hm => by
      obtain ⟨e, he, q⟩ := List.mem_filterMap.mp hm
      exact nfr (List.mem_filterMap.mpr ⟨e, List.mem_cons_of_mem _ he, q⟩)
    have S3 := J3.suite he3 hd3 na nL nF
    have LT : PySem.W.Looks (model X.prog X.w) h3 (typeOf (.ref a)) cls := fun A Q E s k q => wpAny_typeOf_ref (k _ _ he3) (by rw [hz3.1]; exact q)
    have test : ∀ {x : Str} {c : Value} {np : Pos} (hc : Names X x c) {Q : Value → Shared → Prop} {E : Value → Shared → Prop}, Q c { s' with heap := h3 } → wpAny (model X.prog X.w) (X.A.mark (some (.ref a))) (eval (.Name x np) X.env) Q E { s' with heap := h3 } := by
      intro x c np hc Q E q
      obtain ⟨hg, hdbg, hm | ⟨hm, hv, hnn⟩⟩ := hc
      · exact ld_glob (X := X.suite a ((a, oe3) :: (X.pn ++ pins))) S3 hg hm q hdbg
      · exact ld_blt (X := X.suite a ((a, oe3) :: (X.pn ++ pins))) S3 hg hm hv q hnn hdbg
    have go : ∀ {hds' : List ExceptHandler} {l' : List Clz}, HdsA X hds' l' → wManyA X.K Wout D l' cls d σ' H' →
        wpAny (model X.prog X.w) X.A (handleBy (.ref a) X.env hds') (SP X pins D) X.xe { s' with heap := h3 } := by
      intro hds' l' hk
      induction hk with
      | nil =>
        intro w
        refine wpAny_handleBy_nil ?_
        obtain ⟨k1, k2, k3, oe, vs, T, oT, ts', he, hz, hd, h1, hr⟩ := id fl3
        unfold PySem.passOn
        refine wpAny_bind (wpAny_field he hd h1 ?_)
        rw [if_neg (show ¬ ((Value.ref T == Value.none) = true) from by simp)]
        have fin : wpAny (model X.prog X.w) X.A (setFlight (.ref a) X.env.frame) (fun _ s4 => wpAny (model X.prog X.w) X.A (throw (.ref a) : Sem Flow) (SP X pins D) X.xe s4) X.xe { s' with heap := h3 } := by
          rw [hf]
          refine HandSPX.setFlight_upZ fl3 fun h4 hh4 up4 => wpAny_throw (tk _ _ ?_)
          exact ⟨a, B, sI, pins, σ', H', cls, d, rfl, J, nb, (up.trans up3).trans up4, .inr (.inr (by rw [hs]; exact hh4)), na, os, ag, w⟩
        first
          | exact wpAny_bind (wpAny_pure (wpAny_bind fin))
          | exact wpAny_bind fin
      | @bare x c ts b₀ suite np pos' hds2 l2 hc hsu r ih =>
        intro w
        obtain ⟨b, hb1, hyes, hno⟩ := w
        refine wpAny_handleBy_cons (codeAny_handlers_test ?_) (by intro q; cases q)
        have LM := PySem.W.exm_one (M := model X.prog X.w) (J3.kIn) LT hb1
        refine test hc (LM.here ?_)
        cases b with
        | true =>
          refine codeAny_handlers_suite ?_
          refine HandSPX.lands_againZ fl3 fun h4 fl4 up4 => ?_
          have J4 : Inv X pins σ' H' { s' with heap := h4 } := J.landed nb fl4.1 ((up.trans up3).trans up4) os ag
          obtain ⟨oe4, vs4, he4, hz4, hd4⟩ := fl4.there
          have S4 := J4.suite he4 hd4 na nL nF
          refine wpAny_mono ((hsu a oe4 cls d (X.pn ++ pins) hz4 ⟨_, hd4⟩).run [] _ _ H' _ S4 (hyes rfl a na)) (fun f s6 hsp => ?_) (fun _ _ z => False.elim z)
          cases f with
          | next =>
            obtain ⟨σ6, H6, S6, q6⟩ := hsp
            exact ⟨_, _, S6.unsuite ok, q6⟩
          | brk =>
            obtain ⟨σ6, H6, S6, q6⟩ := hsp
            exact ⟨_, _, S6.unsuite ok, q6⟩
          | cont =>
            obtain ⟨σ6, H6, S6, q6⟩ := hsp
            exact ⟨_, _, S6.unsuite ok, q6⟩
          | ret u =>
            obtain ⟨v6, σ6, H6, S6, r6, q6⟩ := hsp
            exact ⟨_, _, _, S6.unsuite ok, r6, q6⟩
        | false =>
          show wpAny _ X.A (handleBy (.ref a) X.env hds2) _ _ _
          exact ih (hno rfl)
      | @as_ x n i c ts b₀ suite np pos' hds2 l2 hN hi hln hc hsu r ih =>
        intro w
        obtain ⟨b, hb1, hyes, hno⟩ := w
        have hloc : Loc X.env.scope n := .inl hln
        refine wpAny_handleBy_cons (codeAny_handlers_test ?_) (by intro q; cases q)
        have LM := PySem.W.exm_one (M := model X.prog X.w) (J3.kIn) LT hb1
        refine test hc (LM.here ?_)
        cases b with
        | true =>
          refine codeAny_handlers_suite_as ?_
          refine HandSPX.lands_againZ fl3 fun h4 fl4 up4 => ?_
          have J4 : Inv X pins σ' H' { s' with heap := h4 } := J.landed nb fl4.1 ((up.trans up3).trans up4) os ag
          obtain ⟨oe4, vs4, he4, hz4, hd4⟩ := fl4.there
          have S4 := J4.suite he4 hd4 na nL nF
          refine store_ok (X := X.suite a ((a, oe4) :: (X.pn ++ pins))) (v := .ref a) S4 hN hi hloc rfl (fun s5 S5 => ?_) (.inr hln)
          refine wpAny_mono ((hsu a oe4 cls d (X.pn ++ pins) hz4 ⟨_, hd4⟩).run [] s5 _ H' _ S5 (hyes rfl a na)) (fun f s6 hsp => ?_) (fun _ _ z => False.elim z)
          have end_ : ∀ {σ6 : St} {H6 : Hp} {Q : Shared → Prop}, Inv (X.suite a ((a, oe4) :: (X.pn ++ pins))) [] σ6 H6 s6 → (∀ s7, Inv X pins (σ6.set i none) H6 s7 → Q s7) →
              wpAny (model X.prog X.w) X.A (do bindName X.env n .none; unbindBehindTheSuite X.env n pos') (fun _ s7 => Q s7) X.xe s6 := fun {σ6 H6 Q} S6 hq => gone_ok (S6.unsuite ok) hN hi hln hq
          cases f with
          | next =>
            obtain ⟨σ6, H6, S6, q6⟩ := hsp
            exact end_ S6 fun s7 J7 => ⟨_, _, J7, q6⟩
          | brk =>
            obtain ⟨σ6, H6, S6, q6⟩ := hsp
            exact end_ S6 fun s7 J7 => ⟨_, _, J7, q6⟩
          | cont =>
            obtain ⟨σ6, H6, S6, q6⟩ := hsp
            exact end_ S6 fun s7 J7 => ⟨_, _, J7, q6⟩
          | ret u =>
            obtain ⟨v6, σ6, H6, S6, r6, q6⟩ := hsp
            exact end_ S6 fun s7 J7 => ⟨_, _, _, J7, r6, q6⟩
        | false =>
          show wpAny _ X.A (handleBy (.ref a) X.env hds2) _ _ _
          exact ih (hno rfl)
    exact go hh w
  · cases f with
    | next =>
      obtain ⟨σ', H', J', q⟩ := hsp
      exact wpAny_execs_nil ⟨σ', H', J'.ofTry ok, q⟩
    | brk =>
      obtain ⟨σ', H', J', q⟩ := hsp
      exact ⟨σ', H', J'.ofTry ok, q⟩
    | cont =>
      obtain ⟨σ', H', J', q⟩ := hsp
      exact ⟨σ', H', J'.ofTry ok, q⟩
    | ret u =>
      obtain ⟨v, σ', H', J', r, q⟩ := hsp
      exact ⟨v, σ', H', J'.ofTry ok, r, q⟩
end
/-- isinstance(e, c), e the exception that the suite holds at a: its class cls, its dict d -/
def rIsEd (K : PySem.W.Frag) (a : Addr) (cls : Value) (d : Option Addr) : List V → Hp → VK → Prop := fun xs H Q => ∃ (c : V) (cv : Value) (b : Bool) (D dd : Addr) (fs : List (Str × V)), xs = [.ref a, c] ∧ cls = .ref D ∧ ExcC K D ∧ d = some dd ∧ H dd = some (.xd fs) ∧
  (∀ u, RelV c u → u = cv) ∧ PySem.W.kitOne K (.ref D) cv = some b ∧ Q (.bl b) H
theorem call_isEd {X : Cx} {a : Addr} {cls : Value} {d : Option Addr} {oe : Obj} {pn : List (Addr × Obj)} (hz : Zc cls d oe) (hf : ∃ vs, oe.data = .fields vs) : CallR (X.suite a ((a, oe) :: pn)) (.builtin "isinstance") (rIsEd X.K a cls d) := by
  intro pins s σ H xs us Q I r h
  obtain ⟨c, cv, b, D, dd, fs, rfl, rfl, C, rfl, hdd, hcv, e, q⟩ := h
  cases r with
  | cons rx rr =>
    cases rr with
    | cons rt rr =>
      cases rr
      cases rx
      have ec := hcv _ rt
      subst ec
      obtain ⟨hget, _⟩ := I.pin (a, oe) (List.mem_append.mpr (.inl List.mem_cons_self))
      obtain ⟨vs, hv⟩ := hf
      have hx : ObjOk X.prog X.w H s.heap dd (.xd fs) := I.hok dd _ hdd
      obtain ⟨mA, hns, hr⟩ := hx
      obtain ⟨od, ho, hl⟩ := lookIn_ns hns
      have J : PySem.W.InstAt s.heap a oe D (some od) := ⟨hget, hz.1, by unfold PySem.W.notCls; rw [hv] <;> rfl, by rw [hz.2]; exact ho⟩
      have hcl : (PySem.W.clsIn X.K D).isSome = true := by
        obtain ⟨cd, hc, _⟩ := PySem.W.any_some C.hd
        rw [hc] <;> rfl
      exact PySem.W.kia_one (PySem.W.kitx_exc hcl C.hg C.hk C.hs C.ha C.hn C.ht C.hm) I.kIn J e (fun z => nomatch z) fun tk => ⟨.bl b, H, I.kept (t' := tk) fun _ _ z => z, rfl, q⟩
end L2

/-! Words of my own over HandS: promises by arity, callable defs, readings step by step. -/
namespace L2
open PySem PySem.Spec PyProof.Rows
/-! ### promises by the number of arguments -/
def sp1 (P : V → Hp → VK → XK → Prop) : Sp := fun vs H Q E => ∃ a, vs = [a] ∧ P a H Q E
def sp2 (P : V → V → Hp → VK → XK → Prop) : Sp := fun vs H Q E => ∃ a b, vs = [a, b] ∧ P a b H Q E
def sp3 (P : V → V → V → Hp → VK → XK → Prop) : Sp := fun vs H Q E => ∃ a b c, vs = [a, b, c] ∧ P a b c H Q E
def sp4 (P : V → V → V → V → Hp → VK → XK → Prop) : Sp := fun vs H Q E => ∃ a b c d, vs = [a, b, c, d] ∧ P a b c d H Q E
def sp5 (P : V → V → V → V → V → Hp → VK → XK → Prop) : Sp := fun vs H Q E => ∃ a b c d e, vs = [a, b, c, d, e] ∧ P a b c d e H Q E
theorem sp1_len {P} {vs H Q E} (h : sp1 P vs H Q E) : vs.length = 1 := by obtain ⟨_, rfl, _⟩ := h; rfl
theorem sp2_len {P} {vs H Q E} (h : sp2 P vs H Q E) : vs.length = 2 := by obtain ⟨_, _, rfl, _⟩ := h; rfl
theorem sp3_len {P} {vs H Q E} (h : sp3 P vs H Q E) : vs.length = 3 := by obtain ⟨_, _, _, rfl, _⟩ := h; rfl
theorem sp4_len {P} {vs H Q E} (h : sp4 P vs H Q E) : vs.length = 4 := by obtain ⟨_, _, _, _, rfl, _⟩ := h; rfl
theorem sp5_len {P} {vs H Q E} (h : sp5 P vs H Q E) : vs.length = 5 := by obtain ⟨_, _, _, _, _, rfl, _⟩ := h; rfl
/-! ### a def that may be called by its name -/
structure CalX (P : Program) (w : World) (K : PySem.W.Frag) (mg : Str → Option Value) (base : Heap) (CX : CXT) (k : Nat) (x : Str) (sp : Sp) : Prop where
  ex : ∃ (f : Addr) (fd : FuncData) (ps : List Str), FnOk P w K mg base CX k f fd ps sp ∧ mg x = some (.ref f) ∧ PySem.W.keepIn K (.ref f) = true ∧ Binds K fd ps []
section
variable {P : Program} {w : World} {K : PySem.W.Frag} {mg : Str → Option Value} {base : Heap}
/-- a def without try and raise -/
theorem calx0 {x : Str} {params : Arguments} {body : List Stmt} {scope : Scope} {f : Addr} {fd : FuncData} {N ps : List Str} {k : Nat} {sp : Sp} (F : FunD K x x params body scope [] [] f fd) (hm : mg x = some (.ref f)) (S : FnScope N ps scope)
    (b : Binds K fd ps []) (len : ∀ vs H Q E, sp vs H Q E → vs.length = ps.length)
    (hbody : ∀ (cdv : Value) (A : Around) (outer : List Env) (s : Shared) (H : Hp) (vs : List V) (Q : VK) (E : XK), Room k (A.deeper (envOfC x scope s.heap.objs.size f cdv)) → sp vs H Q E →
      ∃ t, PSs (cxOf CX0 P w K mg base N x scope f cdv A outer s H E).nox body t ∧ t { nx := fun _ H' => Q .non H', rt := Q } (start N vs) H) : CalX P w K mg base CX0 (k + 1) x sp :=
  ⟨f, fd, ps, F.ok S len fun cdv A outer s H vs Q E hr h => by
    obtain ⟨t, h1, h2⟩ := hbody cdv A outer s H vs Q E hr h
    exact ⟨t, h1.nox, h2⟩, hm, F.kp, b⟩
theorem calxX {CX : CXT} {x : Str} {params : Arguments} {body : List Stmt} {scope : Scope} {f : Addr} {fd : FuncData} {N ps : List Str} {k : Nat} {sp : Sp} (F : FunD K x x params body scope [] [] f fd) (hm : mg x = some (.ref f)) (S : FnScope N ps scope)
    (b : Binds K fd ps []) (len : ∀ vs H Q E, sp vs H Q E → vs.length = ps.length)
    (hbody : ∀ (cdv : Value) (A : Around) (outer : List Env) (s : Shared) (H : Hp) (vs : List V) (Q : VK) (E : XK), Room k (A.deeper (envOfC x scope s.heap.objs.size f cdv)) → sp vs H Q E →
      ∃ t, PSs (cxOf CX P w K mg base N x scope f cdv A outer s H E) body t ∧ t { nx := fun _ H' => Q .non H', rt := Q } (start N vs) H) : CalX P w K mg base CX (k + 1) x sp :=
  ⟨f, fd, ps, F.ok S len hbody, hm, F.kp, b⟩
end
section
variable {X : Cx} {CX : CXT} {k j : Nat} {x : Str} {sp : Sp} {p pos : Pos} {e : Expr} {es : List Expr} {t : TA} {E : XK} {ES : St → XK}
theorem pe_cx (c : CalX X.prog X.w X.K X.mg X.base CX k x sp) (hr : Room j X.A) (hk : k ≤ j) (hg : Gl X x) (hx : Passes CX X E) (ha : PA X (e :: es) t)
    (hdb : (x == ("__debug__" : Str)) = false := by decide) (he : starEach (e :: es) X.env = (false, eval e X.env) :: starEach es X.env := by rfl) (hpl : (backTo pos (starEach es X.env)).any (·.1) = false := by rfl) :
    PE X (.Call (.Name x p) (e :: es) [] pos) (tCall sp [] E t) := by
  obtain ⟨f, fd, ps, F, hm, kp, b⟩ := c.ex
  exact pe_call F (hr.mono hk) hg hm kp b .nil hx ha hdb he hpl
theorem pe_cx0 (c : CalX X.prog X.w X.K X.mg X.base CX k x sp) (hr : Room j X.A) (hk : k ≤ j) (hg : Gl X x) (hx : Passes CX X E) (hdb : (x == ("__debug__" : Str)) = false := by decide) :
    PE X (.Call (.Name x p) [] [] pos) (tCall sp [] E tNil) := by
  obtain ⟨f, fd, ps, F, hm, kp, b⟩ := c.ex
  exact pe_call0 F (hr.mono hk) hg hm kp b .nil hx hdb
/-- within a try -/
theorem pe_cxS (c : CalX X.prog X.w X.K X.mg X.base CX k x sp) (hr : Room j X.A) (hk : k ≤ j) (hg : Gl X x) (hx : ∀ σ, PassesAt CX X σ (ES σ)) (ha : PA X (e :: es) t)
    (hdb : (x == ("__debug__" : Str)) = false := by decide) (he : starEach (e :: es) X.env = (false, eval e X.env) :: starEach es X.env := by rfl) (hpl : (backTo pos (starEach es X.env)).any (·.1) = false := by rfl) :
    PE X (.Call (.Name x p) (e :: es) [] pos) (tCallS sp ES t) := by
  obtain ⟨f, fd, ps, F, hm, kp, b⟩ := c.ex
  exact pe_callS F (hr.mono hk) hg hm kp b hx ha hdb he hpl
/-- a name of the module, by its value -/
theorem pe_gv {v : V} (h : ∃ u, X.mg x = some u ∧ RelV v u) (hg : Gl X x := by rfl) (hd : (x == ("__debug__" : Str)) = false := by decide) : PE X (.Name x pos) (tC v) := by
  obtain ⟨u, hm, r⟩ := h
  exact pe_glob hg hm r hd
end
/-! ### more operators -/
section
variable {X : Cx}
/-- text * int -/
def rRepS : R2 := fun x y H Q => ∃ z n, x = .str z ∧ y = .int n ∧ MulOk z n ∧ Q (.str (Txt.mul z n)) H
theorem op_repS : OpR X (binaryOp .Mult) rRepS := by
  intro pins s σ H x y u v Q I rx ry h
  obtain ⟨z, n, rfl, rfl, hok, q⟩ := h
  obtain ⟨t, rfl⟩ := rx
  obtain ⟨t', rfl⟩ := ry
  exact SB.mul hok fun t1 k => ⟨.str (Txt.mul z n), H, I.tok _, ⟨_, rfl⟩, q⟩
end
/-! ### readings by name -/
section
variable {X : Cx}
def rCatS : R2 := fun x y H Q => ∃ i j, x = .str i ∧ y = .str j ∧ i.length + j.length ≤ sizeLine ∧ Q (.str (i ++ j)) H
theorem op_catS : OpR X (binaryOp .Add) rCatS := op_add_str
def rAddI : R2 := rI0 fun i j => .int (i + j)
def rSubI : R2 := rI0 fun i j => .int (i - j)
def rMulI : R2 := rI CMul fun i j => .int (i * j)
def rDivI : R2 := rI CDiv fun i j => .int (i / j)
def rModI : R2 := rI (fun _ j => 0 < j) fun i j => .int (i % j)
def rPowI : R2 := rI CPow fun i j => .int (i ^ j.toNat)
def rLtI : R2 := rI0 fun i j => .bl (decide (i < j))
def rLeI : R2 := rI0 fun i j => .bl (decide (i ≤ j))
def rGtI : R2 := rI0 fun i j => .bl (decide (j < i))
def rGeI : R2 := rI0 fun i j => .bl (decide (j ≤ i))
theorem op_addI : OpR X (binaryOp .Add) rAddI := op_add
theorem op_subI : OpR X (binaryOp .Sub) rSubI := op_sub
theorem op_mulI : OpR X (binaryOp .Mult) rMulI := op_mul
theorem op_divI : OpR X (binaryOp .FloorDiv) rDivI := op_fdiv
theorem op_modI : OpR X (binaryOp .Mod) rModI := op_mod
theorem op_powI : OpR X (binaryOp .Pow) rPowI := op_pow
theorem op_ltI : OpR X (compareOp .Lt) rLtI := op_lt
theorem op_leI : OpR X (compareOp .LtE) rLeI := op_le
theorem op_gtI : OpR X (compareOp .Gt) rGtI := op_gt
theorem op_geI : OpR X (compareOp .GtE) rGeI := op_ge
/-- one sign in a text -/
def rInC : R2 := fun x y H Q => ∃ (c : Nat) (z : Str), x = .str ⟨#[c]⟩ ∧ y = .str z ∧ Q (.bl (decide (c ∈ z.cps.toList))) H
def rNotInC : R2 := fun x y H Q => ∃ (c : Nat) (z : Str), x = .str ⟨#[c]⟩ ∧ y = .str z ∧ Q (.bl (!decide (c ∈ z.cps.toList))) H
theorem op_inC : OpR X (compareOp .In) rInC := op_in_sign
theorem op_notInC : OpR X (compareOp .NotIn) rNotInC := op_notIn_sign
def rLenQ (K : PySem.W.Frag) : List V → Hp → VK → Prop := fun xs H Q => ∃ p ys, xs = [.ref p] ∧ (SqL K H p ys ∨ SqT K H p ys) ∧ Q (.int ys.length) H
def rLenT : List V → Hp → VK → Prop := fun xs H Q => ∃ z : Str, xs = [.str z] ∧ z.length ≤ sizeLine ∧ Q (.int z.length) H
theorem call_lenQ : CallR X (.builtin "len") (rLenQ X.K) := call_len_seq
theorem call_lenT : CallR X (.builtin "len") rLenT := call_len_str
def rAbsI : List V → Hp → VK → Prop := fun xs H Q => ∃ i, xs = [.int i] ∧ Q (.int (if i < 0 then -i else i)) H
theorem call_absI : CallR X (.builtin "abs") rAbsI := call_abs
def rMaxI : List V → Hp → VK → Prop := fun xs H Q => ∃ i j, xs = [.int i, .int j] ∧ Q (.int (if j > i then j else i)) H
def rMinI : List V → Hp → VK → Prop := fun xs H Q => ∃ i j, xs = [.int i, .int j] ∧ Q (.int (if j < i then j else i)) H
theorem call_maxI (hc : X.calm = true) : CallR X (.builtin "max") rMaxI := call_max2 hc
theorem call_minI (hc : X.calm = true) : CallR X (.builtin "min") rMinI := call_min2 hc
def rIntI : List V → Hp → VK → Prop := fun xs H Q => ∃ i, xs = [.int i] ∧ Q (.int i) H
theorem call_intI : CallR X (.type "int") rIntI := fun pins s σ H xs us Q I r ⟨i, e, q⟩ => call_int1 pins s σ H xs us Q I r (.inl ⟨i, e, q⟩)
def rTupL (K : PySem.W.Frag) : List V → Hp → VK → Prop := fun xs H Q => ∃ p ys, xs = [.ref p] ∧ SqL K H p ys ∧ ∀ l, H l = none → Q (.ref l) (upd H l (.tup ys))
theorem call_tupL : CallR X (.type "tuple") (rTupL X.K) := fun pins s σ H xs us Q I r ⟨p, ys, e, h, q⟩ => call_tuple_of pins s σ H xs us Q I r ⟨p, ys, e, .inl ⟨h, q⟩⟩
def rLstQ (K : PySem.W.Frag) : List V → Hp → VK → Prop := fun xs H Q => ∃ p ys, xs = [.ref p] ∧ (SqL K H p ys ∨ SqT K H p ys) ∧ ∀ l, H l = none → Q (.ref l) (upd H l (.lst ys))
theorem call_lstQ : CallR X (.type "list") (rLstQ X.K) := call_list_of
/-- a list of the call's own -/
abbrev rIxTu := rIxT
end
/-! ### steps -/
section
variable {σ : St} {H : Hp} {i : Nat} {v x y z : V} {ta tb tc te : TE} {tt uu : TT} {tA tR : TA} {Q : VK} {QB : Bool → Hp → Prop} {QA : List V → Hp → Prop} {QO : Option Int → Hp → Prop} {D : Ends} {t u : TS} {g : TG} {r r' : R2} {K : PySem.W.Frag}
theorem w_var (e : σ[i]? = some (some v)) (h : Q v H) : tVar i σ H Q := ⟨v, e, h⟩
theorem w_c (h : Q v H) : tC v σ H Q := h
theorem w_op (h : ta σ H fun x H1 => tb σ H1 fun y H2 => r x y H2 Q) : tOp r ta tb σ H Q := h
theorem w_un {ru : V → Hp → VK → Prop} (h : ta σ H fun x H1 => ru x H1 Q) : tUn ru ta σ H Q := h
theorem w_seq (h : t { D with nx := u D } σ H) : tSeq t u D σ H := h
theorem w_next (h : D.nx σ H) : tNext D σ H := h
theorem w_brk (h : D.bk σ H) : tBreak D σ H := h
theorem w_cnt (h : D.ct σ H) : tCont D σ H := h
theorem w_asgN (h : te σ H fun x H1 => D.nx (σ.set i (some x)) H1) : tAsg te (gName i) D σ H := h
theorem w_asg (h : te σ H fun x H1 => g x σ H1 D.nx) : tAsg te g D σ H := h
theorem w_aug {ti : TIp} (e : σ[i]? = some (some x)) (h : te σ H fun y H1 => ti x y H1 fun z H2 => D.nx (σ.set i (some z)) H2) : tAug i te ti D σ H := ⟨x, e, h⟩
theorem w_ipI {f : Int → Int → Int} {a b : Int} (h : Q (.int (f a b)) H) : ipI f (.int a) (.int b) H Q := ⟨a, b, rfl, rfl, h⟩
theorem w_ret (h : te σ H D.rt) : tRet te D σ H := h
theorem w_retN (h : D.rt .non H) : tRetN D σ H := h
theorem w_drop (h : te σ H fun _ H1 => D.nx σ H1) : tDrop te D σ H := h
theorem w_ifS (h : tt σ H fun b H1 => if b = true then t D σ H1 else u D σ H1) : tIfS tt t u D σ H := h
theorem w_if (h : tt σ H fun b H1 => if b = true then ta σ H1 Q else tb σ H1 Q) : tIf tt ta tb σ H Q := h
theorem w_test (h : te σ H fun x H' => ∃ k, x = .bl k ∧ QB k H') : tTest te σ H QB := h
theorem w_tB (h : te σ H fun x H' => ∃ k, x = .bl k ∧ QB k H') : tB te σ H QB := h
theorem w_bl {b : Bool} {F : Bool → Prop} (h : F b) : ∃ k, V.bl b = .bl k ∧ F k := ⟨b, rfl, h⟩
theorem w_and (h : tt σ H fun c H1 => if c = true then uu σ H1 QB else QB false H1) : tAnd tt uu σ H QB := h
theorem w_or (h : tt σ H fun c H1 => if c = true then QB true H1 else uu σ H1 QB) : tOr tt uu σ H QB := h
theorem w_not (h : tt σ H fun c H1 => QB (!c) H1) : tNot tt σ H QB := h
theorem w_andV (h : ta σ H fun x H1 => ∃ c, x = .bl c ∧ if c = true then tb σ H1 Q else Q (.bl false) H1) : tAndV ta tb σ H Q := h
theorem w_orV (h : ta σ H fun x H1 => ∃ c, x = .bl c ∧ if c = true then Q (.bl true) H1 else tb σ H1 Q) : tOrV ta tb σ H Q := h
theorem w_notV (h : ta σ H fun x H1 => ∃ c, x = .bl c ∧ Q (.bl (!c)) H1) : tNotV ta σ H Q := h
theorem w_blI {b : Bool} {F : Bool → Prop} (h : F b) : ∃ c, V.bl b = .bl c ∧ F c := ⟨b, rfl, h⟩
theorem w_nil (h : QA [] H) : tNil σ H QA := h
theorem w_cons (h : te σ H fun x H1 => tR σ H1 fun xs H2 => QA (x :: xs) H2) : tCons te tR σ H QA := h
theorem w_cb {rc : List V → Hp → VK → Prop} (h : tA σ H fun vs H1 => rc vs H1 Q) : tCB rc tA σ H Q := h
theorem w_call {sp : Sp} {E : XK} (h : tA σ H fun vs H1 => sp vs H1 Q E) : tCall sp [] E tA σ H Q := by
  have e : tCall sp [] E tA σ H Q = tA σ H fun vs H1 => sp (vs ++ []) H1 Q E := rfl
  rw [e]
  simpa only [List.append_nil] using h
theorem w_callS {sp : Sp} {ES : St → XK} (h : tA σ H fun vs H1 => sp vs H1 Q (ES σ)) : tCallS sp ES tA σ H Q := h
theorem w_chain (h : ta σ H fun x H1 => tb σ H1 fun y H2 => r x y H2 fun z H3 => ∃ k, z = .bl k ∧ (if k = true then tc σ H3 fun w' H4 => r' y w' H4 Q else Q (.bl false) H3)) : tChain r r' ta tb tc σ H Q := h
theorem w_tup (h : tA σ H fun xs H1 => xs.length ≤ sizeLine ∧ ∀ p, H1 p = none → Q (.ref p) (upd H1 p (.tup xs))) : tTup tA σ H Q := h
theorem w_lst (h : tA σ H fun xs H1 => xs.length ≤ sizeLine ∧ ∀ p, H1 p = none → Q (.ref p) (upd H1 p (.lst xs))) : tLst tA σ H Q := h
theorem w_new {vs : List V} {F : Addr → Prop} (hz : vs.length ≤ 4096) (h : ∀ p, H p = none → F p) : vs.length ≤ sizeLine ∧ ∀ p, H p = none → F p := ⟨Nat.le_trans hz (by decide), h⟩
theorem w_sl {rs : V → Option Int → Option Int → Hp → VK → Prop} {tl th : TO} (h : te σ H fun x H1 => tl σ H1 fun l H2 => th σ H2 fun u H3 => rs x l u H3 Q) : tSl rs te tl th σ H Q := h
theorem w_noPart (h : QO none H) : tNoPart σ H QO := h
theorem w_part (h : te σ H fun x H1 => ∃ i, x = .int i ∧ QO (some i) H1) : tPart te σ H QO := h
theorem w_partI {n : Int} {F : Int → Prop} (h : F n) : ∃ i, V.int n = .int i ∧ F i := ⟨n, rfl, h⟩
theorem w_I0 {f : Int → Int → V} {a b : Int} (h : Q (f a b) H) : rI0 f (.int a) (.int b) H Q := ⟨a, b, rfl, rfl, h⟩
theorem w_addI {a b : Int} (h : Q (.int (a + b)) H) : rAddI (.int a) (.int b) H Q := ⟨a, b, rfl, rfl, h⟩
theorem w_subI {a b : Int} (h : Q (.int (a - b)) H) : rSubI (.int a) (.int b) H Q := ⟨a, b, rfl, rfl, h⟩
theorem w_mulI {a b : Int} (hc : CMul a b) (h : Q (.int (a * b)) H) : rMulI (.int a) (.int b) H Q := ⟨a, b, rfl, rfl, hc, h⟩
theorem w_divI {a b : Int} (hc : CDiv a b) (h : Q (.int (a / b)) H) : rDivI (.int a) (.int b) H Q := ⟨a, b, rfl, rfl, hc, h⟩
theorem w_modI {a b : Int} (hc : 0 < b) (h : Q (.int (a % b)) H) : rModI (.int a) (.int b) H Q := ⟨a, b, rfl, rfl, hc, h⟩
theorem w_powI {a b : Int} (hc : CPow a b) (h : Q (.int (a ^ b.toNat)) H) : rPowI (.int a) (.int b) H Q := ⟨a, b, rfl, rfl, hc, h⟩
theorem w_ltI {a b : Int} (h : Q (.bl (decide (a < b))) H) : rLtI (.int a) (.int b) H Q := ⟨a, b, rfl, rfl, h⟩
theorem w_leI {a b : Int} (h : Q (.bl (decide (a ≤ b))) H) : rLeI (.int a) (.int b) H Q := ⟨a, b, rfl, rfl, h⟩
theorem w_gtI {a b : Int} (h : Q (.bl (decide (b < a))) H) : rGtI (.int a) (.int b) H Q := ⟨a, b, rfl, rfl, h⟩
theorem w_geI {a b : Int} (h : Q (.bl (decide (b ≤ a))) H) : rGeI (.int a) (.int b) H Q := ⟨a, b, rfl, rfl, h⟩
theorem w_eqI {a b : Int} (h : Q (.bl (decide (a = b))) H) : rEq (.int a) (.int b) H Q := ⟨rfl, by
  have e : decide (V.int a = V.int b) = decide (a = b) := by simp
  rw [e]; exact h⟩
theorem w_neI {a b : Int} (h : Q (.bl (!decide (a = b))) H) : rNe (.int a) (.int b) H Q := ⟨rfl, by
  have e : decide (V.int a = V.int b) = decide (a = b) := by simp
  rw [e]; exact h⟩
theorem w_eqS {a b : Str} (h : Q (.bl (decide (a = b))) H) : rEq (.str a) (.str b) H Q := ⟨rfl, by
  have e : decide (V.str a = V.str b) = decide (a = b) := by simp
  rw [e]; exact h⟩
theorem w_neS {a b : Str} (h : Q (.bl (!decide (a = b))) H) : rNe (.str a) (.str b) H Q := ⟨rfl, by
  have e : decide (V.str a = V.str b) = decide (a = b) := by simp
  rw [e]; exact h⟩
theorem w_catS {a b : Str} (hz : a.length + b.length ≤ sizeLine) (h : Q (.str (a ++ b)) H) : rCatS (.str a) (.str b) H Q := ⟨a, b, rfl, rfl, hz, h⟩
theorem w_repS {a : Str} {n : Int} (hz : MulOk a n) (h : Q (.str (Txt.mul a n)) H) : rRepS (.str a) (.int n) H Q := ⟨a, n, rfl, rfl, hz, h⟩
theorem w_inC {c : Nat} {z : Str} (h : Q (.bl (decide (c ∈ z.cps.toList))) H) : rInC (.str ⟨#[c]⟩) (.str z) H Q := ⟨c, z, rfl, rfl, h⟩
theorem w_notInC {c : Nat} {z : Str} (h : Q (.bl (!decide (c ∈ z.cps.toList))) H) : rNotInC (.str ⟨#[c]⟩) (.str z) H Q := ⟨c, z, rfl, rfl, h⟩
theorem w_lenT {z : Str} (hz : z.length ≤ sizeLine) (h : Q (.int z.length) H) : rLenT [.str z] H Q := ⟨z, rfl, hz, h⟩
theorem w_lenL {p : Addr} {ys : List V} (hs : SqL K H p ys) (h : Q (.int ys.length) H) : rLenQ K [.ref p] H Q := ⟨p, ys, rfl, .inl hs, h⟩
theorem w_lenU {p : Addr} {ys : List V} (hs : SqT K H p ys) (h : Q (.int ys.length) H) : rLenQ K [.ref p] H Q := ⟨p, ys, rfl, .inr hs, h⟩
theorem w_absI {a : Int} (h : Q (.int (if a < 0 then -a else a)) H) : rAbsI [.int a] H Q := ⟨a, rfl, h⟩
theorem w_intI {a : Int} (h : Q (.int a) H) : rIntI [.int a] H Q := ⟨a, rfl, h⟩
theorem w_maxI {a b : Int} (h : Q (.int (if b > a then b else a)) H) : rMaxI [.int a, .int b] H Q := ⟨a, b, rfl, h⟩
theorem w_minI {a b : Int} (h : Q (.int (if b < a then b else a)) H) : rMinI [.int a, .int b] H Q := ⟨a, b, rfl, h⟩
theorem w_ixL {p : Addr} {xs : List V} {n : Nat} (hs : SqL K H p xs) (e : xs[n]? = some v) (h : Q v H) : rIxL K (.ref p) (.int (n : Int)) H Q := ⟨p, xs, n, v, rfl, rfl, hs, atI_nat e, h⟩
theorem w_ixU {p : Addr} {xs : List V} {n : Nat} (hs : SqT K H p xs) (e : xs[n]? = some v) (h : Q v H) : rIxT K (.ref p) (.int (n : Int)) H Q := ⟨p, xs, n, v, rfl, rfl, hs, atI_nat e, h⟩
theorem w_ixS {l : List Nat} {n : Nat} {c : Nat} (hz : l.length ≤ sizeLine) (e : l[n]? = some c) (h : Q (.str ⟨#[c]⟩) H) : rIxS (.str (SX.S l)) (.int (n : Int)) H Q := ⟨_, _, c, rfl, rfl, by rw [SX.S_len]; exact hz, atI_nat e, h⟩
theorem w_setL {p : Addr} {xs : List V} {k : Nat} {F : Hp → Prop} (hp : H p = some (.lst xs)) (hk : k < xs.length) (h : F (upd H p (.lst (xs.set k v)))) : rSetL (.ref p) (.int (k : Int)) v H F :=
  ⟨p, xs, k, k, rfl, rfl, hp, by unfold ixN; rw [if_pos (by omega), if_pos (by omega)]; rfl, h⟩
theorem w_gSub {ts : TSet} {F : St → Hp → Prop} (h : ta σ H fun o H1 => tb σ H1 fun i H2 => ts o i v H2 fun H3 => F σ H3) : gSub ta tb ts v σ H F := h
theorem w_bm {T : String} {rm : V → List V → Hp → VK → Prop} (h : te σ H fun x H1 => tyV K T x H1 ∧ tA σ H1 fun xs H2 => rm x xs H2 Q) : tBM K T rm te tA σ H Q := h
theorem w_bm0 {T : String} {rm : V → List V → Hp → VK → Prop} (h : te σ H fun x H1 => tyV K T x H1 ∧ rm x [] H1 Q) : tBM0 K T rm te σ H Q := h
theorem w_lstTy {p : Addr} {xs : List V} {F : Prop} (hp : H p = some (.lst xs)) (h : F) : tyV K "list" (.ref p) H ∧ F := ⟨.inl ⟨rfl, _, SqL.of hp⟩, h⟩
theorem w_app {p : Addr} {xs : List V} (hp : H p = some (.lst xs)) (hz : xs.length < sizeLine) (h : Q .non (upd H p (.lst (xs ++ [v])))) : rAppend (.ref p) [v] H Q := ⟨p, xs, v, rfl, rfl, hp, hz, h⟩
theorem w_dec {p : Prop} {inst : Decidable p} {A B : Prop} (h1 : p → A) (h2 : ¬ p → B) : if @decide p inst = true then A else B := by
  by_cases h : p
  · rw [if_pos (decide_eq_true h)]; exact h1 h
  · rw [if_neg (by simp [h])]; exact h2 h
theorem w_ndec {p : Prop} {inst : Decidable p} {A B : Prop} (h1 : ¬ p → A) (h2 : p → B) : if (!@decide p inst) = true then A else B := by
  by_cases h : p
  · rw [if_neg (by simp [h])]; exact h2 h
  · rw [if_pos (by simp [h])]; exact h1 h
theorem w_b {b : Bool} {A B : Prop} (h1 : b = true → A) (h2 : b = false → B) : if b = true then A else B := by
  cases b with
  | true => rw [if_pos rfl]; exact h1 rfl
  | false => rw [if_neg Bool.false_ne_true]; exact h2 rfl
theorem w_t {A B : Prop} (h : A) : if true = true then A else B := by rw [if_pos rfl]; exact h
theorem w_f {A B : Prop} (h : B) : if false = true then A else B := by rw [if_neg Bool.false_ne_true]; exact h
end
theorem w_nt {A B : Prop} (h : B) : if (!true) = true then A else B := h
theorem w_nf {A B : Prop} (h : A) : if (!false) = true then A else B := h
section
variable {f b c : St → Hp → Prop} {r : VK} {σ : St} {H : Hp} {v : V}
theorem w_nx (h : f σ H) : Ends.nx ⟨f, r, b, c⟩ σ H := h
theorem w_rt (h : r v H) : Ends.rt ⟨f, r, b, c⟩ v H := h
theorem w_bk (h : b σ H) : Ends.bk ⟨f, r, b, c⟩ σ H := h
theorem w_ct (h : c σ H) : Ends.ct ⟨f, r, b, c⟩ σ H := h
end
/-- the body of a def, its slots written out -/
theorem start1 (n : Str) (N : List Str) (v : V) : start (n :: N) [v] = some v :: List.replicate N.length none := rfl
/-- a word between a statement and the rest -/
theorem w_mid {t u : TS} {D : Ends} {σ : St} {H : Hp} (Mid : St → Hp → Prop) (h : t { D with nx := Mid } σ H) (k : ∀ σ' H', Mid σ' H' → u D σ' H') : Evl.tCut t u D σ H := ⟨Mid, h, k⟩
/-! ### loops -/
section
variable {σ : St} {H : Hp} {v : V} {te : TE} {tA : TA} {tc : TT} {D : Ends} {tb : TS} {g : TG} {wi : TI} {K : PySem.W.Frag} {R : It → Hp → Prop}
theorem w_for (h : wi σ H fun J H1 => ∃ W : Nat → Nat → St → Hp → Prop, (∃ m, W 0 m σ H1) ∧ ∀ i m σ H, W i m σ H →
    (J.stop i H ∧ D.nx σ H) ∨ (J.go i H ∧ ∃ N : St → Hp → Prop, (∀ σ' H', N σ' H' → ∃ m', m' < m ∧ W (i + 1) m' σ' H') ∧ ∀ x H', J.yld i H x H' → g x σ H' fun σ2 H2 => tb { D with nx := N, ct := N, bk := D.nx } σ2 H2)) : tFor wi g tb D σ H := h
theorem w_iR1 (h : tA σ H fun vs H1 => ∃ j : Int, vs = [.int j] ∧ -(2 ^ 62) ≤ j ∧ j < 2 ^ 62 ∧ R (Itr 0 j.toNat) H1) : iRng1 tA σ H R := h
theorem w_iR2 (h : tA σ H fun vs H1 => ∃ i j : Int, vs = [.int i, .int j] ∧ (-(2 ^ 62) ≤ i ∧ i < 2 ^ 62 ∧ -(2 ^ 62) ≤ j ∧ j < 2 ^ 62) ∧ R (Itr i (j - i).toNat) H1) : iRng2 tA σ H R := h
theorem w_rg1 {n : Int} {F : Int → Prop} (h1 : -(2 ^ 62) ≤ n) (h2 : n < 2 ^ 62) (h : F n) : ∃ j : Int, [V.int n] = [.int j] ∧ -(2 ^ 62) ≤ j ∧ j < 2 ^ 62 ∧ F j := ⟨n, rfl, h1, h2, h⟩
theorem w_rg2 {a b : Int} {F : Int → Int → Prop} (h1 : -(2 ^ 62) ≤ a ∧ a < 2 ^ 62 ∧ -(2 ^ 62) ≤ b ∧ b < 2 ^ 62) (h : F a b) : ∃ i j : Int, [V.int a, V.int b] = [.int i, .int j] ∧ (-(2 ^ 62) ≤ i ∧ i < 2 ^ 62 ∧ -(2 ^ 62) ≤ j ∧ j < 2 ^ 62) ∧ F i j := ⟨a, b, rfl, h1, h⟩
theorem w_iStr (h : te σ H fun v H1 => ∃ x, v = .str x ∧ R (Its x) H1) : iStr te σ H R := h
theorem w_strI {z : Str} {F : Str → Prop} (h : F z) : ∃ x, V.str z = .str x ∧ F x := ⟨z, rfl, h⟩
theorem w_iList (h : te σ H fun x H1 => ∃ a, x = .ref a ∧ (∃ xs, SqL K H1 a xs) ∧ R (Itl K a) H1) : iList K te σ H R := h
theorem w_lstI {a : Addr} {xs : List V} {F : Addr → Prop} (hs : SqL K H a xs) (h : F a) : ∃ b, V.ref a = .ref b ∧ (∃ xs, SqL K H b xs) ∧ F b := ⟨a, rfl, ⟨xs, hs⟩, h⟩
theorem w_iTup (h : te σ H fun x H1 => ∃ a, x = .ref a ∧ (∃ xs, SqT K H1 a xs) ∧ R (Itt K a) H1) : iTup K te σ H R := h
theorem w_tupI {a : Addr} {xs : List V} {F : Addr → Prop} (hs : SqT K H a xs) (h : F a) : ∃ b, V.ref a = .ref b ∧ (∃ xs, SqT K H b xs) ∧ F b := ⟨a, rfl, ⟨xs, hs⟩, h⟩
theorem for_str {l : List Nat} (Pv : Nat → St → Hp → Prop) (h0 : Pv 0 σ H)
    (hs : ∀ i c σ H, l[i]? = some c → Pv i σ H → g (.str ⟨#[c]⟩) σ H fun σ2 H2 => tb { D with nx := Pv (i + 1), ct := Pv (i + 1), bk := D.nx } σ2 H2) (hd : ∀ σ H, Pv l.length σ H → D.nx σ H) :
    ∃ W : Nat → Nat → St → Hp → Prop, (∃ m, W 0 m σ H) ∧ ∀ i m σ H, W i m σ H →
      ((Its (SX.S l)).stop i H ∧ D.nx σ H) ∨ ((Its (SX.S l)).go i H ∧ ∃ N : St → Hp → Prop, (∀ σ' H', N σ' H' → ∃ m', m' < m ∧ W (i + 1) m' σ' H') ∧ ∀ x H', (Its (SX.S l)).yld i H x H' → g x σ H' fun σ2 H2 => tb { D with nx := N, ct := N, bk := D.nx } σ2 H2) := by
  have sz : (SX.S l).cps.size = l.length := by simp [SX.S]
  refine ⟨fun i m σ H => m = l.length - i ∧ i ≤ l.length ∧ Pv i σ H, ⟨l.length, by simp, Nat.zero_le _, h0⟩, ?_⟩
  rintro i m σ H ⟨rfl, hi, p⟩
  by_cases hlt : i < l.length
  · refine .inr ⟨by show i < (SX.S l).cps.size; rw [sz]; exact hlt, Pv (i + 1), fun σ' H' p' => ⟨l.length - (i + 1), by omega, rfl, hlt, p'⟩, fun x H' y => ?_⟩
    obtain ⟨e, c, hc, rfl⟩ := y
    subst e
    refine hs i c σ _ ?_ p
    have : (SX.S l).cps[i]? = some c := hc
    simpa [SX.S] using this
  · have e : i = l.length := by omega
    subst e
    exact .inl ⟨by show (SX.S l).cps.size ≤ l.length; rw [sz]; exact Nat.le_refl _, hd σ H p⟩
theorem w_whl (W : Nat → St → Hp → Prop) (m0 : Nat) (h0 : W m0 σ H) (hs : ∀ m σ H, W m σ H → tc σ H fun b H1 => if b = true then ∃ N : St → Hp → Prop, (∀ σ' H', N σ' H' → ∃ m', m' < m ∧ W m' σ' H') ∧ tb { D with nx := N, ct := N, bk := D.nx } σ H1 else D.nx σ H1) : tWhile tc tb D σ H :=
  ⟨W, ⟨m0, h0⟩, hs⟩
theorem w_turn {W : Nat → St → Hp → Prop} {m : Nat} (h : tb { D with nx := fun σ' H' => ∃ m', m' < m ∧ W m' σ' H', ct := fun σ' H' => ∃ m', m' < m ∧ W m' σ' H', bk := D.nx } σ H) : ∃ N : St → Hp → Prop, (∀ σ' H', N σ' H' → ∃ m', m' < m ∧ W m' σ' H') ∧ tb { D with nx := N, ct := N, bk := D.nx } σ H := ⟨_, fun _ _ z => z, h⟩
end
/-! ### texts -/
theorem S_eq {a b : List Nat} : SX.S a = SX.S b ↔ a = b := ⟨SX.S_inj, fun e => by rw [e]⟩
theorem S_ofs {s : String} {l : List Nat} (h : (Str.ofString s).cps.toList = l) : Str.ofString s = SX.S l := by
  rw [← h, SX.S_tl]
theorem S_get (l : List Nat) : (SX.S l).cps.toList = l := by simp [SX.S]
theorem inV_S (a : List Nat) : ∀ rs : List (List Nat), inV (.str (SX.S a)) (rs.map fun r => V.str (SX.S r)) = decide (a ∈ rs)
  | [] => rfl
  | r :: rs => by
    have ih := inV_S a rs
    unfold inV at ih ⊢
    rw [List.map_cons, List.any_cons, ih]
    show ((SX.S r == SX.S a) || decide (a ∈ rs)) = decide (a ∈ r :: rs)
    rw [SX.S_beq_eq]
    by_cases h : a = r
    · subst h; simp
    · have h' : ¬ r = a := fun z => h z.symm
      simp [h, h']
theorem flat_S (rs : List (List Nat)) : (rs.map fun r => V.str (SX.S r)).all flatV = true := by
  rw [List.all_map]
  exact List.all_eq_true.mpr fun _ _ => rfl
/-- x in a table of texts -/
theorem w_inTab {K : PySem.W.Frag} {H : Hp} {Q : VK} {p : Addr} {a : List Nat} {xs : List V} {rs : List (List Nat)} (hs : SqT K H p xs) (e : xs = rs.map fun r => V.str (SX.S r)) (h : Q (.bl (decide (a ∈ rs))) H) : rIn K false (.str (SX.S a)) (.ref p) H Q := by
  subst e
  refine ⟨p, _, rfl, .inr hs, rfl, flat_S rs, ?_⟩
  rw [inV_S]
  exact h
theorem w_inLst {K : PySem.W.Frag} {H : Hp} {Q : VK} {p : Addr} {a : List Nat} {xs : List V} {rs : List (List Nat)} (hs : SqL K H p xs) (e : xs = rs.map fun r => V.str (SX.S r)) (h : Q (.bl (decide (a ∈ rs))) H) : rIn K false (.str (SX.S a)) (.ref p) H Q := by
  subst e
  refine ⟨p, _, rfl, .inl hs, rfl, flat_S rs, ?_⟩
  rw [inV_S]
  exact h
/-- slices of texts: a whole number from 0 on, on both sides -/
theorem cut_S (l : List Nat) (a b : Option Nat) : cutS (SX.S l) (a.map Int.ofNat) (b.map Int.ofNat) = SX.S ((l.drop (a.getD 0)).take (b.getD l.length - a.getD 0)) := by
  have hl : (SX.S l).length = l.length := SX.S_len l
  have six : ∀ (n d : Nat) (o : Option Nat), d ≤ n → HT.sIx n d (o.map Int.ofNat) = min (o.getD d) n := by
    intro n d o hd
    cases o with
    | none => show d = min d n; omega
    | some k => exact HT.sIx_nat n d k
  unfold cutS
  rw [hl, six _ _ _ (Nat.zero_le _), six _ _ _ (Nat.le_refl _), S_get]
  congr 1
  apply congrArg
  apply List.ext_getElem?
  intro i
  simp only [List.getElem?_take, List.getElem?_drop]
  by_cases h1 : i < min (b.getD l.length) l.length - min (a.getD 0) l.length
  · rw [if_pos h1, if_pos (by omega), show min (a.getD 0) l.length + i = a.getD 0 + i by omega]
  · rw [if_neg h1]
    by_cases h2 : i < b.getD l.length - a.getD 0
    · rw [if_pos h2, List.getElem?_eq_none (by omega)]
    · rw [if_neg h2]
theorem w_cutS {H : Hp} {Q : VK} {l : List Nat} {a b : Nat} (hz : l.length ≤ sizeLine) (h : Q (.str (SX.S ((l.drop a).take (b - a)))) H) : rSlS (.str (SX.S l)) (some (a : Int)) (some (b : Int)) H Q :=
  ⟨_, rfl, by rw [SX.S_len]; exact hz, by have e := cut_S l (some a) (some b); rw [show (some (a : Int)) = (some a).map Int.ofNat from rfl, show (some (b : Int)) = (some b).map Int.ofNat from rfl, e]; exact h⟩
theorem w_cutTo {H : Hp} {Q : VK} {l : List Nat} {b : Nat} (hz : l.length ≤ sizeLine) (h : Q (.str (SX.S (l.take b))) H) : rSlS (.str (SX.S l)) none (some (b : Int)) H Q :=
  ⟨_, rfl, by rw [SX.S_len]; exact hz, by have e := cut_S l none (some b); rw [show (none : Option Int) = (none : Option Nat).map Int.ofNat from rfl, show (some (b : Int)) = (some b).map Int.ofNat from rfl, e]; exact h⟩
theorem w_cutFrom {H : Hp} {Q : VK} {l : List Nat} {a : Nat} (hz : l.length ≤ sizeLine) (h : Q (.str (SX.S (l.drop a))) H) : rSlS (.str (SX.S l)) (some (a : Int)) none H Q :=
  ⟨_, rfl, by rw [SX.S_len]; exact hz, by
    have e := cut_S l (some a) none
    rw [show (some (a : Int)) = (some a).map Int.ofNat from rfl, show (none : Option Int) = (none : Option Nat).map Int.ofNat from rfl, e]
    have z : (l.drop ((some a).getD 0)).take ((none : Option Nat).getD l.length - (some a).getD 0) = l.drop a := by
      show (l.drop a).take (l.length - a) = l.drop a
      exact List.take_of_length_le (by rw [List.length_drop]; omega)
    rw [z]; exact h⟩
theorem S_app (a b : List Nat) : SX.S a ++ SX.S b = SX.S (a ++ b) := SX.S_cat a b
theorem w_catT {H : Hp} {Q : VK} {a b : List Nat} (hz : a.length + b.length ≤ sizeLine) (h : Q (.str (SX.S (a ++ b))) H) : rCatS (.str (SX.S a)) (.str (SX.S b)) H Q := ⟨_, _, rfl, rfl, by rw [SX.S_len, SX.S_len]; exact hz, by rw [S_app]; exact h⟩
theorem w_lenS {H : Hp} {Q : VK} {l : List Nat} (hz : l.length ≤ sizeLine) (h : Q (.int (l.length : Int)) H) : rLenT [.str (SX.S l)] H Q := ⟨_, rfl, by rw [SX.S_len]; exact hz, by rw [SX.S_len]; exact h⟩
theorem w_eqT {H : Hp} {Q : VK} {a b : List Nat} (h : Q (.bl (decide (a = b))) H) : rEq (.str (SX.S a)) (.str (SX.S b)) H Q := ⟨rfl, by
  have e : decide (V.str (SX.S a) = V.str (SX.S b)) = decide (a = b) := by
    by_cases z : a = b
    · subst z; simp
    · simp only [V.str.injEq, S_eq]
  rw [e]; exact h⟩
theorem w_neT {H : Hp} {Q : VK} {a b : List Nat} (h : Q (.bl (!decide (a = b))) H) : rNe (.str (SX.S a)) (.str (SX.S b)) H Q := ⟨rfl, by
  have e : decide (V.str (SX.S a) = V.str (SX.S b)) = decide (a = b) := by
    by_cases z : a = b
    · subst z; simp
    · simp only [V.str.injEq, S_eq]
  rw [e]; exact h⟩
theorem w_inS {H : Hp} {Q : VK} {c : Nat} {l : List Nat} (h : Q (.bl (decide (c ∈ l))) H) : rInC (.str ⟨#[c]⟩) (.str (SX.S l)) H Q := ⟨c, _, rfl, rfl, by rw [S_get]; exact h⟩
theorem w_ninS {H : Hp} {Q : VK} {c : Nat} {l : List Nat} (h : Q (.bl (!decide (c ∈ l))) H) : rNotInC (.str ⟨#[c]⟩) (.str (SX.S l)) H Q := ⟨c, _, rfl, rfl, by rw [S_get]; exact h⟩
theorem flatten_rep (xs : Array Nat) : ∀ (n : Nat) (acc : Array Nat), ((List.replicate n xs).foldl (· ++ ·) acc).toList = acc.toList ++ (List.replicate n xs.toList).flatten
  | 0, acc => by simp
  | n + 1, acc => by
    rw [List.replicate_succ, List.foldl_cons, flatten_rep xs n, Array.toList_append, List.replicate_succ, List.flatten_cons, List.append_assoc]
theorem mul_S (l : List Nat) (n : Nat) : Txt.mul (SX.S l) (n : Int) = SX.S ((List.replicate n l).flatten) := by
  unfold Txt.mul
  by_cases h1 : (n : Int) < 1
  · rw [if_pos h1]
    have e : n = 0 := by omega
    subst e; rfl
  · rw [if_neg h1]
    by_cases h2 : ((n : Int) == 1 || (SX.S l).length == 0) = true
    · rw [if_pos h2]
      rw [Bool.or_eq_true, beq_iff_eq, beq_iff_eq, SX.S_len] at h2
      rcases h2 with h2 | h2
      · have e : n = 1 := by omega
        subst e; simp
      · have e : l = [] := List.length_eq_zero_iff.mp h2
        subst e
        have z : (List.replicate n ([] : List Nat)).flatten = [] := by simp
        rw [z]
    · rw [if_neg h2, Int.toNat_natCast]
      have e := flatten_rep (SX.S l).cps n #[]
      rw [S_get] at e
      show (⟨_⟩ : Str) = SX.S _
      apply TL.ext_tl
      show ((List.replicate n (SX.S l).cps).foldl (· ++ ·) #[]).toList = _
      rw [e]
      simp [TL.tl, SX.S]
theorem w_repT {H : Hp} {Q : VK} {l : List Nat} {n : Nat} (hz : l.length * n ≤ 1000000) (h : Q (.str (SX.S ((List.replicate n l).flatten))) H) (hn : n ≤ 1000000 := by omega) : rRepS (.str (SX.S l)) (.int (n : Int)) H Q := by
  refine ⟨_, _, rfl, rfl, ⟨?_, fun h1 h2 => ?_, fun h1 h2 => ?_⟩, by rw [mul_S]; exact h⟩
  · rw [decide_eq_false (by omega), decide_eq_false (by omega)]; rfl
  · rw [SX.S_len]
    have h3 : (0 : Int) < n := by omega
    have h4 : (l.length : Int) * n ≤ 1000000 := by
      have z : ((l.length * n : Nat) : Int) ≤ ((1000000 : Nat) : Int) := Int.ofNat_le.mpr hz
      rw [Int.natCast_mul] at z
      exact z
    have h5 : (l.length : Int) ≤ (2 ^ 63 - 1) / (n : Int) := Int.le_ediv_of_mul_le h3 (by omega)
    omega
  · rw [SX.S_len, Int.toNat_natCast]
    show decide (l.length * n > sizeLine) = false
    rw [sizeLine_eq]
    exact decide_eq_false (by omega)
/-! ### isinstance -/
theorem w_isi {K : PySem.W.Frag} {H : Hp} {Q : VK} {x : V} {t : Value} {n : String} {b : Bool} (ty : TyX K H x t) (k : PySem.W.kitOne K t (.type n) = some b) (h : Q (.bl b) H) : rIsi K [x, .ty n] H Q := ⟨x, .ty n, t, .type n, b, rfl, .ty n, ty, k, h⟩
theorem kit_ss {K : PySem.W.Frag} : PySem.W.kitOne K (.type "str") (.type "str") = some true := kit_ty (by decide +kernel)
theorem kit_ii {K : PySem.W.Frag} : PySem.W.kitOne K (.type "int") (.type "int") = some true := kit_ty (by decide +kernel)
theorem kit_ib {K : PySem.W.Frag} : PySem.W.kitOne K (.type "int") (.type "bool") = some false := kit_ty (by decide +kernel)
theorem kit_tt {K : PySem.W.Frag} : PySem.W.kitOne K (.type "tuple") (.type "tuple") = some true := kit_ty (by decide +kernel)
end L2

/-! Steps for comprehensions, list slices, list sums. -/
namespace L2
open PySem PySem.Spec PyProof.Rows
section
variable {σ : St} {H : Hp} {Q : VK} {QB : Bool → Hp → Prop} {K : PySem.W.Frag} {D : Ends}
theorem w_yes (h : QB true H) : tYes σ H QB := h
theorem w_lc {wi : TI} {g : TG} {tt : TT} {te : TE} {vs : List Nat} (h : wi σ H fun J H1 => ∀ D, H1 D = none → ∃ W : Nat → Nat → Hp → Prop, (∃ m, W 0 m (upd H1 D (.lst []))) ∧ ∀ i m H, W i m H →
  (J.stop i H ∧ Q (.ref D) H) ∨ (J.go i H ∧ ∃ Nx : Hp → Prop, (∀ H', Nx H' → ∃ m', m' < m ∧ W (i + 1) m' H') ∧ ∀ x H', J.yld i H x H' → g x (wipe σ vs) H' fun σ2 H2 => wipe σ2 vs = wipe σ vs ∧ tt σ2 H2 fun b H3 =>
    if b = true then te σ2 H3 fun y H4 => ∃ acc, H4 D = some (.lst acc) ∧ acc.length < sizeLine ∧ Nx (upd H4 D (.lst (acc ++ [y]))) else Nx H3)) : tLc wi g tt te vs σ H Q := h
theorem w_neg {f : Int → V} {a : Int} (h : Q (f a) H) : rU f (.int a) H Q := ⟨a, rfl, h⟩
theorem cut_V (l : List V) (a b : Option Nat) : cutV l (a.map Int.ofNat) (b.map Int.ofNat) = (l.drop (a.getD 0)).take (b.getD l.length - a.getD 0) := by
  have six : ∀ (n d : Nat) (o : Option Nat), d ≤ n → HT.sIx n d (o.map Int.ofNat) = min (o.getD d) n := by
    intro n d o hd
    cases o with
    | none => show d = min d n; omega
    | some k => exact HT.sIx_nat n d k
  unfold cutV
  rw [six _ _ _ (Nat.zero_le _), six _ _ _ (Nat.le_refl _)]
  apply List.ext_getElem?
  intro i
  simp only [List.getElem?_take, List.getElem?_drop]
  by_cases h1 : i < min (b.getD l.length) l.length - min (a.getD 0) l.length
  · rw [if_pos h1, if_pos (by omega), show min (a.getD 0) l.length + i = a.getD 0 + i by omega]
  · rw [if_neg h1]
    by_cases h2 : i < b.getD l.length - a.getD 0
    · rw [if_pos h2, List.getElem?_eq_none (by omega)]
    · rw [if_neg h2]
theorem cut_to (l : List V) (b : Nat) : cutV l none (some (b : Int)) = l.take b := cut_V l none (some b)
theorem cut_from (l : List V) (a : Nat) : cutV l (some (a : Int)) none = l.drop a := by
  have e := cut_V l (some a) none
  have z : (l.drop ((some a).getD 0)).take ((none : Option Nat).getD l.length - (some a).getD 0) = l.drop a := by
    show (l.drop a).take (l.length - a) = l.drop a
    exact List.take_of_length_le (by rw [List.length_drop]; omega)
  rw [z] at e
  exact e
theorem cut_mid (l : List V) (a b : Nat) : cutV l (some (a : Int)) (some (b : Int)) = (l.drop a).take (b - a) := cut_V l (some a) (some b)
theorem w_lTo {p : Addr} {l : List V} {b : Nat} (hs : SqL K H p l) (h : ∀ q, H q = none → Q (.ref q) (upd H q (.lst (l.take b)))) : rSlL K (.ref p) none (some (b : Int)) H Q := ⟨p, l, rfl, hs, by rw [cut_to]; exact h⟩
theorem w_lFrom {p : Addr} {l : List V} {a : Nat} (hs : SqL K H p l) (h : ∀ q, H q = none → Q (.ref q) (upd H q (.lst (l.drop a)))) : rSlL K (.ref p) (some (a : Int)) none H Q := ⟨p, l, rfl, hs, by rw [cut_from]; exact h⟩
theorem w_lMid {p : Addr} {l : List V} {a b : Nat} (hs : SqL K H p l) (h : ∀ q, H q = none → Q (.ref q) (upd H q (.lst ((l.drop a).take (b - a))))) : rSlL K (.ref p) (some (a : Int)) (some (b : Int)) H Q := ⟨p, l, rfl, hs, by rw [cut_mid]; exact h⟩
theorem w_catL {p q : Addr} {xs zs : List V} (hp : H p = some (.lst xs)) (hq : H q = some (.lst zs)) (hz : xs.length + zs.length ≤ sizeLine) (h : ∀ t, H t = none → Q (.ref t) (upd H t (.lst (xs ++ zs)))) : rCat (.ref p) (.ref q) H Q := ⟨p, q, xs, zs, rfl, rfl, hp, hq, hz, h⟩
end
end L2

/-! The head's facts: defs, names, tables, and exception classes with their __init__ -/
namespace HallHt
open PySem PySem.Spec PyProof.Rows L2 PySem.HallX
def cAd (K : PySem.W.Frag) (x : Str) : Addr := He.ga K x
def iAd (K : PySem.W.Frag) (x : Str) : Addr := He.ma K (He.ga K x) "__init__"
def initFd (K : PySem.W.Frag) (x : Str) : Option FuncData := match K.lookup (iAd K x) with
  | some ⟨_, _, .func fd, _⟩ => some fd
  | _ => none
def codeAd (K : PySem.W.Frag) (x : Str) : Addr := match initFd K x with
  | some fd => (match fd.code with
    | .ref a => a
    | _ => 0)
  | none => 0
def cellAd (K : PySem.W.Frag) (x : Str) : Addr := match initFd K x with
  | some fd => (match fd.closure with
    | [(_, c)] => c
    | _ => 0)
  | none => 0
abbrev FnH : Type := Option (Str × Str × Arguments × FuncBody × Scope × Addr × Addr)
def fnH (K : PySem.W.Frag) (x : Str) : FnH := (initFd K x).map fun fd => (fd.name, fd.qualname, fd.params, fd.body, fd.scope, fd.globals, fd.builtins)
structure HallD where
  x : Str
  fld : Str
  qual : Str
  params : Arguments
  body : List Stmt
  scope : Scope
def HallD.val (d : HallD) : FnH := some ("__init__", d.qual, d.params, .stmts d.body, d.scope, mainGlobals, builtinsNs)
def clsB (K : PySem.W.Frag) (C : Addr) : Bool := match K.lookup C with
  | some ⟨.type "type", _, .cls cd, sl⟩ => (match cd.mro, sl.toList with
    | .ref C' :: bm, [_, _, _, _, some (.builtin n), _] => C' == C && n == "ValueError.__new__" && !cd.hasDel && cd.hasDict && PySem.HandSPX.refsVE bm
    | _, _ => false)
  | _ => false
theorem clsB_ok {K : PySem.W.Frag} {C : Addr} (q : clsB K C = true) : ∃ nm q N bs bm sn sub ab col dd k0 k1 k2 k3 k5, K.lookup C = some (excClassObj nm q C N bs bm true sn sub ab col dd k0 k1 k2 k3 k5 "ValueError.__new__") ∧ PySem.HandSPX.refsVE bm = true := by
  unfold clsB at q
  split at q
  · rename_i dd cd sl ho
    split at q
    · rename_i C' bm k0 k1 k2 k3 n k5 hm hs
      simp only [Bool.and_eq_true, beq_iff_eq, Bool.not_eq_true'] at q
      obtain ⟨⟨⟨⟨rfl, rfl⟩, hdel⟩, hdct⟩, ht⟩ := q
      obtain ⟨nm, bs, mro, ns, qn, hd, sn, sub, ab, col, del⟩ := cd
      dsimp only at hm hdel hdct
      subst hm hdel hdct
      have hsl : sl = #[k0, k1, k2, k3, some (.builtin "ValueError.__new__"), k5] := by
        obtain ⟨l⟩ := sl
        simp only at hs
        rw [hs]
      subst hsl
      exact ⟨nm, qn, ns, bs, bm, sn, sub, ab, col, dd, k0, k1, k2, k3, k5, ho, ht⟩
    · cases q
  · cases q
def noFld (K : PySem.W.Frag) (d : HallD) : Bool := decide (PySem.W.findIn K (.ref (cAd K d.x)) d.fld = some none)
def hallB (file : Str) (K : PySem.W.Frag) (d : HallD) : Bool :=
  He.eqO (PySem.W.nsIn K mainGlobals d.x) (some (some (.ref (cAd K d.x))))
  && (clsB K (cAd K d.x)
  && (decide (PySem.W.ks_superIn K (cAd K d.x) (cAd K d.x) "__init__" = some (some (.builtin "ValueError.__init__")))
  && (decide (PySem.W.findIn K (.ref (cAd K d.x)) "__setattr__" = some (some (.builtin "object.__setattr__")))
  && (decide (PySem.W.findIn K (.ref (cAd K d.x)) "__getattribute__" = some (some (.builtin "BaseException.__getattribute__")))
  && (decide (PySem.W.findIn K (.ref (cAd K d.x)) "__getattr__" = some none)
  && (decide (PySem.W.findIn K (.ref (cAd K d.x)) "__init__" = some (some (.ref (iAd K d.x))))
  && (decide (PySem.W.typeIn K (.ref (iAd K d.x)) = some (.type "function"))
  && (PySem.W.keepIn K (.ref (cAd K d.x))
  && (decide (PySem.W.subIn K (.ref (cAd K d.x)) (.type "BaseException") = some true)
  && (decide (PySem.W.typeIn K (.ref (cAd K d.x)) = some (.type "type"))
  && (PySem.W.hasDictIn K (cAd K d.x)
  && (decide (PySem.W.subIn K (.ref (cAd K d.x)) (.type "ValueError") = some true)
  && (decide (PySem.W.mroIn K (cAd K d.x) (.ref (cAd K d.x)) = some true)
  && ((match initFd K d.x with
    | some fd => decide (fd.closure = [(("__class__" : Str), cellAd K d.x)]) && (decide (fd.code = .ref (codeAd K d.x)) && decide (fd.defaults = Value.none))
    | none => false)
  && (PySem.W.codeIn K (.ref (codeAd K d.x)) d.qual
  && ((match K.lookup (codeAd K d.x) with
    | some ⟨_, _, .fields vs, _⟩ => (match (vs : Array Value)[2]? with
      | some (Value.str f _) => decide (f = file)
      | _ => false)
    | _ => false)
  && ((match K.lookup (cellAd K d.x) with
    | some ⟨_, _, .cell (some (.ref C)), _⟩ => decide (C = cAd K d.x)
    | _ => false)
  && (decide (PySem.W.nsIn K cStatics "thirdparty.any" = some none)
  && (He.eqO (PySem.W.nsIn K mainGlobals "super") (some none)
  && (decide (PySem.W.findIn K (.ref (cAd K d.x)) "__class__" = some (some (.builtin "object.__class__")))
  && (decide (PySem.W.specialIn K (.builtin "object.__class__") "__get__" = some (some (.builtin "getset_descriptor.__get__")))
  && (decide (PySem.W.takesIn K (.builtin "object.__class__") = some true)
  && decide (PySem.W.mroIn K (cAd K d.x) (.type "object") = some true)))))))))))))))))))))))
theorem ba {a b : Bool} (h : (a && b) = true) : a = true ∧ b = true := Bool.and_eq_true_iff.mp h
theorem hall_of {prog : Program} {K : PySem.W.Frag} {h : Heap} {mg : Str → Option Value} {d : HallD} (X : K.In h) (G : h.Ns mainGlobals mg) (e : fnH K d.x = d.val) (q : hallB prog.main.file K d = true) (t0 : (prog.main.scope.names.lookup ("super" : Str)).isSome = false) :
    HallTxt prog K mg d.x (cAd K d.x) (iAd K d.x) (cellAd K d.x) (codeAd K d.x) d.qual d.params d.body d.scope ∧ ExcC K (cAd K d.x) := by
  obtain ⟨c1, q⟩ := ba q
  obtain ⟨c2, q⟩ := ba q
  obtain ⟨c3, q⟩ := ba q
  obtain ⟨c4, q⟩ := ba q
  obtain ⟨c5, q⟩ := ba q
  obtain ⟨c6, q⟩ := ba q
  obtain ⟨c7, q⟩ := ba q
  obtain ⟨c8, q⟩ := ba q
  obtain ⟨c9, q⟩ := ba q
  obtain ⟨c10, q⟩ := ba q
  obtain ⟨c11, q⟩ := ba q
  obtain ⟨c12, q⟩ := ba q
  obtain ⟨c13, q⟩ := ba q
  obtain ⟨c14, q⟩ := ba q
  obtain ⟨c15, q⟩ := ba q
  obtain ⟨c16, q⟩ := ba q
  obtain ⟨c17, q⟩ := ba q
  obtain ⟨c18, q⟩ := ba q
  obtain ⟨c19, q⟩ := ba q
  obtain ⟨c20, q⟩ := ba q
  obtain ⟨c21, q⟩ := ba q
  obtain ⟨c22, q⟩ := ba q
  obtain ⟨c23, c24⟩ := ba q
  refine ⟨{ gC := PySem.W.mg_of X G (He.eqO_ok c1), cls := clsB_ok c2, «sup» := of_decide_eq_true c3, sa := of_decide_eq_true c4, ga := of_decide_eq_true c5, gg := of_decide_eq_true c6, iC := of_decide_eq_true c7, tI := of_decide_eq_true c8, kC := c9, exC := of_decide_eq_true c10, tyC := of_decide_eq_true c11, hdC := c12, ve := of_decide_eq_true c13, self := of_decide_eq_true c14, fn := ?_, code := ?_, cell := ?_, stat := of_decide_eq_true c19, sup0 := PySem.W.mg_none_of X G (He.eqO_ok c20), top0 := t0 }, { hg := of_decide_eq_true c5, hk := of_decide_eq_true c6, hs := of_decide_eq_true c10, hd := c12, ha := of_decide_eq_true c21, hn := of_decide_eq_true c22, ht := of_decide_eq_true c23, hm := of_decide_eq_true c24 }⟩
  · unfold fnH at e
    cases q1 : initFd K d.x with
    | none =>
      rw [q1] at c15
      cases c15
    | some fd =>
      rw [q1] at c15 e
      obtain ⟨w1, w2⟩ := ba c15
      obtain ⟨w3, w4⟩ := ba w2
      have d1 := of_decide_eq_true w1
      have d2 := of_decide_eq_true w3
      have d3 := of_decide_eq_true w4
      clear w1 w2 w3 w4 c15
      have q2 : ∃ oc od osl, K.lookup (iAd K d.x) = some ⟨oc, od, .func fd, osl⟩ := by
        unfold initFd at q1
        split at q1
        · rename_i oc od fd' osl ho
          cases q1
          exact ⟨oc, od, osl, ho⟩
        · cases q1
      obtain ⟨oc, od, osl, ho⟩ := q2
      obtain ⟨n1, n2, n3, n4, n5, n6, n7, n8, n9, n10, n11, n12, n13, n14, n15⟩ := fd
      have e2 : (some (n1, n2, n3, n4, n5, n6, n15) : FnH) = some (("__init__" : Str), d.qual, d.params, FuncBody.stmts d.body, d.scope, mainGlobals, builtinsNs) := e
      simp only [Option.some.injEq, Prod.mk.injEq] at e2
      obtain ⟨h1, h2, h3, h4, h5, h6, h7⟩ := e2
      dsimp only at d1 d2 d3
      subst h1 h2 h3 h4 h5 h6 h7 d1 d2
      exact ⟨oc, od, n8, n9, n10, n11, n12, n14, osl, ho, c16, d3⟩
  · cases q1 : K.lookup (codeAd K d.x) with
    | none =>
      rw [q1] at c17
      cases c17
    | some o =>
      obtain ⟨oc, od, dt, osl⟩ := o
      rw [q1] at c17
      cases dt with
      | fields vs =>
        have c18 : (match (vs : Array Value)[2]? with
          | some (Value.str f _) => decide (f = prog.main.file)
          | _ => false) = true := c17
        cases q2 : vs[2]? with
        | none =>
          rw [q2] at c18
          cases c18
        | some v =>
          rw [q2] at c18
          cases v with
          | str f t =>
            have ef : f = prog.main.file := of_decide_eq_true c18
            rw [ef] at q2
            exact ⟨oc, od, vs, osl, t, rfl, q2⟩
          | _ => cases c18
      | _ => cases c17
  · cases q1 : K.lookup (cellAd K d.x) with
    | none =>
      rw [q1] at c18
      cases c18
    | some o =>
      obtain ⟨oc, od, dt, osl⟩ := o
      rw [q1] at c18
      cases dt with
      | cell v =>
        cases v with
        | none => cases c18
        | some v =>
          cases v with
          | ref C =>
            have ec : C = cAd K d.x := of_decide_eq_true c18
            subst ec
            exact ⟨oc, od, osl, rfl⟩
          | _ => cases c18
      | _ => cases c18
theorem noFld_ok {K : PySem.W.Frag} {d : HallD} (h : noFld K d = true) : PySem.W.findIn K (.ref (cAd K d.x)) d.fld = some none := of_decide_eq_true h
/-! ### the Hook -/
abbrev AlH : Type := He.AlD × Bool × List FnH × List (Option (List (Option (Str × Int))))
def kOf (n : Nat) (g : Addr → Option Obj) : PySem.W.Frag := He.frG g (He.asD g n ++ [cStatics])
def obsH (fa : List He.Fa) (fn : List He.DefD) (hs : List HallD) (ex : PySem.W.Frag → Bool) (ts : List He.Tab) (K : PySem.W.Frag) : AlH := (He.obsD fa fn K, ex K, hs.map fun d => fnH K d.x, ts.map fun t => He.dicW K (t.1 K))
def valH (fn : List He.DefD) (hs : List HallD) (ts : List He.Tab) (w : World) : AlH := (He.valD fn, true, hs.map HallD.val, ts.map fun t => some (He.keysIn w.params t.2))
def obsHG (n : Nat) (fa : List He.Fa) (fn : List He.DefD) (hs : List HallD) (ex : PySem.W.Frag → Bool) (ts : List He.Tab) (g : Addr → Option Obj) : AlH := obsH fa fn hs ex ts (kOf n g)
def SaysH (fa : List He.Fa) (fn : List He.DefD) (hs : List HallD) (ex : PySem.W.Frag → Bool) (ts : List He.Tab) (w : World) (K : PySem.W.Frag) : Prop := obsH fa fn hs ex ts K = valH fn hs ts w
def hookH (n : Nat) (fa : List He.Fa) (fn : List He.DefD) (hs : List HallD) (ex : PySem.W.Frag → Bool) (ts : List He.Tab) : PySem.W.Hook where
  α := AlH
  obs := fun s => obsHG n fa fn hs ex ts s.heap.get?
  val := fun w => valH fn hs ts w
  says := fun w h => ∃ K : PySem.W.Frag, K.In h ∧ SaysH fa fn hs ex ts w K
  of := fun _ _ e => ⟨_, He.frG_in, e⟩
  keeps := fun _ _ _ ⟨K, hK, c⟩ k => ⟨K, PySem.W.Frag.In.keeps hK k, c⟩
theorem obsHG_eq {n : Nat} {fa : List He.Fa} {fn : List He.DefD} {hs : List HallD} {ex : PySem.W.Frag → Bool} {ts : List He.Tab} {g : Addr → Option Obj} {s : Shared} (h : ∀ a, g a = s.heap.get? a) : obsHG n fa fn hs ex ts g = (hookH n fa fn hs ex ts).obs s := by
  have e : g = s.heap.get? := funext h
  rw [e] <;> rfl
section
variable {fa : List He.Fa} {fn : List He.DefD} {hs : List HallD} {ex : PySem.W.Frag → Bool} {ts : List He.Tab} {w : World} {K : PySem.W.Frag}
theorem SaysH.tab (c : SaysH fa fn hs ex ts w K) (i : Nat) {t : He.Tab} (h : ts[i]? = some t := by rfl) : He.dicW K (t.1 K) = some (He.keysIn w.params t.2) := by
  have e : ts.map (fun t => He.dicW K (t.1 K)) = ts.map fun t => some (He.keysIn w.params t.2) := congrArg (fun z : AlH => z.2.2.2) c
  have e2 : (ts.map fun t => He.dicW K (t.1 K))[i]? = (ts.map fun t => some (He.keysIn w.params t.2))[i]? := by rw [e]
  rw [List.getElem?_map, List.getElem?_map, h] at e2
  exact Option.some.inj e2
theorem SaysH.d (c : SaysH fa fn hs ex ts w K) : He.SaysD fa fn K := congrArg (fun z : AlH => z.1) c
theorem SaysH.more (c : SaysH fa fn hs ex ts w K) : ex K = true := congrArg (fun z : AlH => z.2.1) c
theorem SaysH.hall (c : SaysH fa fn hs ex ts w K) (i : Nat) {d : HallD} (h : hs[i]? = some d := by rfl) : fnH K d.x = d.val := by
  have e : hs.map (fun d => fnH K d.x) = hs.map HallD.val := congrArg (fun z : AlH => z.2.2.1) c
  have e2 : (hs.map fun d => fnH K d.x)[i]? = (hs.map HallD.val)[i]? := by rw [e]
  rw [List.getElem?_map, List.getElem?_map, h] at e2
  exact Option.some.inj e2
end
/-- a table of the top with text keys: its keys' answers -/
structure TxtD (K : PySem.W.Frag) (w : World) (d : Addr) (kvs : List (Str × He.Dv)) : Prop where
  ex : ∃ es n, KDict K w d es n
  has : ∀ p ∈ kvs, ∃ u, PySem.W.nsIn K d p.1 = some (some u) ∧ RelV (p.2.v K) u
  not : ∀ z, z ∉ kvs.map (·.1) → PySem.W.nsIn K d z = some none
theorem keys_of {P : Params} : ∀ {l : List DictEntry} {ks : List Str}, l.map He.keyOf = He.keysIn P ks → ∀ e ∈ l, ∃ x t, e.key = .str x t ∧ x ∈ ks
  | [], _, _, e, h => by cases h
  | _ :: _, [], h, _, _ => by cases h
  | e :: r, k :: ks, h, e', he => by
    have h1 : He.keyOf e :: r.map He.keyOf = some (k, PyData.keyHash P k) :: He.keysIn P ks := h
    injection h1 with h2 h3
    rcases List.mem_cons.mp he with rfl | he
    · unfold He.keyOf at h2
      split at h2
      · rename_i x t q
        have h4 := Option.some.inj h2
        obtain ⟨h5, h6⟩ := Prod.mk.inj h4
        exact ⟨x, t, q, by rw [h5]; exact List.mem_cons_self⟩
      · cases h2
    · obtain ⟨x, t, q, m⟩ := keys_of h3 e' he
      exact ⟨x, t, q, List.mem_cons_of_mem _ m⟩
theorem txtD_of {K : PySem.W.Frag} {w : World} {d : Addr} {kvs : List (Str × He.Dv)} (h : He.dicW K d = some (He.keysIn w.params (kvs.map (·.1)))) (hv : He.valsB K d kvs = true) : TxtD K w d kvs := by
  obtain ⟨es, n, D⟩ := He.dicW_ok h
  refine ⟨⟨es, n, D⟩, fun p hp => He.valsB_ok hv hp, fun z hz => ?_⟩
  have h2 : es.toList.map He.keyOf = He.keysIn w.params (kvs.map (·.1)) := by
    unfold He.dicW at h
    rw [D.at_] at h
    dsimp only at h
    split at h
    · exact Option.some.inj h
    · cases h
  have hk := keys_of h2
  unfold PySem.W.nsIn
  rw [D.at_]
  dsimp only
  have e1 : es.toList.find? (·.key.isStr z) = none := by
    rw [List.find?_eq_none]
    intro e he hz'
    obtain ⟨x, t, q, m⟩ := hk e he
    rw [q] at hz'
    have : x = z := by
      have := hz'
      unfold Value.isStr at this
      simpa using this
    subst this
    exact hz m
  rw [e1]
  dsimp only
  have e2 : es.toList.any (·.refKey) = false := by
    rw [List.any_eq_false]
    intro e he hz'
    obtain ⟨x, t, q, m⟩ := hk e he
    unfold DictEntry.refKey at hz'
    rw [q] at hz'
    cases hz'
  rw [e2]
  rfl
/-- the i-th top statement's class: the j-th statement of its body -/
def inCls (s : Stmt) (j : Nat) : Stmt := inClass s j
end HallHt

/-! Objects, texts' methods, dicts: more words of my own over HandS. -/
namespace L2
open PySem PySem.Spec PyProof.Rows SX TL PySem.StrLaws PySem.Builtin.Str
/-! ### methods and makers that may be called -/
structure MetX (P : Program) (w : World) (K : PySem.W.Frag) (mg : Str → Option Value) (base : Heap) (CX : CXT) (k : Nat) (C : Addr) (m : Str) (sp : Sp) : Prop where
  ex : ∃ (f : Addr) (fd : FuncData) (ps : List Str), FnOk P w K mg base CX k f fd ps sp ∧ Meth K C m f ∧ Binds K fd ps []
structure MakX (P : Program) (w : World) (K : PySem.W.Frag) (mg : Str → Option Value) (base : Heap) (CX : CXT) (k : Nat) (C : Addr) (sp : Sp) : Prop where
  ex : ∃ (f : Addr) (fd : FuncData) (ps : List Str), FnOk P w K mg base CX k f fd ps sp ∧ Mk K C f ∧ Binds K fd ps []
section
variable {X : Cx} {CX : CXT} {k j : Nat} {C : Addr} {x m : Str} {sp : Sp} {p pos apos : Pos} {e o : Expr} {es : List Expr} {ta : TE} {t : TA} {E : XK}
theorem pe_mx {pl : Sem Bool} (M : MetX X.prog X.w X.K X.mg X.base CX k C m sp) (he : PE X o ta) (c : Cls X.K C) (hr : Room j X.A) (hk : k ≤ j) (hx : Passes CX X E) (ha : PA X (e :: es) t)
    (hst : starEach (e :: es) X.env = (false, eval e X.env) :: starEach es X.env := by rfl) (hpl : (backTo pos (starEach es X.env)).any (·.1) = false := by rfl)
    (ht : eval (.Call (.Attribute o m apos) (e :: es) [] pos) X.env = (do
      let ov ← eval o X.env
      standAt apos.atName
      let (f, first) ← holding [ov] (getMethod ov m pl)
      callWith pos f first (backTo pos (starEach (e :: es) X.env)) (backToKw pos (keywordEach [] X.env))) := by rfl) :
    PE X (.Call (.Attribute o m apos) (e :: es) [] pos) (tMeth C m sp [] E ta t) := by
  obtain ⟨f, fd, ps, F, hm, b⟩ := M.ex
  exact pe_meth he c hm F (hr.mono hk) b .nil hx ha hst hpl ht
theorem pe_mx0 {pl : Sem Bool} (M : MetX X.prog X.w X.K X.mg X.base CX k C m sp) (he : PE X o ta) (c : Cls X.K C) (hr : Room j X.A) (hk : k ≤ j) (hx : Passes CX X E)
    (ht : eval (.Call (.Attribute o m apos) [] [] pos) X.env = (do
      let ov ← eval o X.env
      standAt apos.atName
      let (f, first) ← holding [ov] (getMethod ov m pl)
      callWith pos f first (backTo pos (starEach [] X.env)) (backToKw pos (keywordEach [] X.env))) := by rfl) :
    PE X (.Call (.Attribute o m apos) [] [] pos) (tMeth C m sp [] E ta tNil) := by
  obtain ⟨f, fd, ps, F, hm, b⟩ := M.ex
  exact pe_meth0 he c hm F (hr.mono hk) b .nil hx ht
theorem pe_mk (M : MakX X.prog X.w X.K X.mg X.base CX k C sp) (hr : Room j X.A) (hk : k + 1 ≤ j) (hg : Gl X x) (hm : X.mg x = some (.ref C)) (hx : Passes CX X E)
    (ha : PA X (e :: es) t) (hdb : (x == ("__debug__" : Str)) = false := by decide) (he : starEach (e :: es) X.env = (false, eval e X.env) :: starEach es X.env := by rfl) (hpl : (backTo pos (starEach es X.env)).any (·.1) = false := by rfl) :
    PE X (.Call (.Name x p) (e :: es) [] pos) (tMake C sp [] E t) := by
  obtain ⟨f, fd, ps, F, M, b⟩ := M.ex
  exact pe_make M F (hr.mono hk) hg hm b .nil hx ha hdb he hpl
/-- a def that lets a callee's exception out -/
theorem passE {E : XK} {E₁ : Value → Shared → Prop} (hs : X.stack = X.env :: X.outer) (hf : X.env.frame = some X.env.locals) (hex : X.ex = [])
    (hx : X.xe = fun e s' => wpAny (model X.prog X.w) X.A (leaving X.env e) (fun _ s'' => L2.CX X.prog X.w X.outer X.H_0 X.s_0 E e s'') E₁ s') : Passes (L2.CX X.prog X.w) X E :=
  passes_call (takes_of hs hf hex hx) fun _ _ _ _ h => h
end
section
variable {P : Program} {w : World} {K : PySem.W.Frag} {mg : Str → Option Value} {base : Heap}
theorem metx {CX : CXT} {m q : Str} {params : Arguments} {body : List Stmt} {scope : Scope} {C f : Addr} {fd : FuncData} {N ps : List Str} {k : Nat} {sp : Sp} (F : FunD K m q params body scope [] [] f fd) (hm : Meth K C m f) (S : FnScope N ps scope)
    (b : Binds K fd ps []) (len : ∀ vs H Q E, sp vs H Q E → vs.length = ps.length)
    (hbody : ∀ (cdv : Value) (A : Around) (outer : List Env) (s : Shared) (H : Hp) (vs : List V) (Q : VK) (E : XK), Room k (A.deeper (envOfC q scope s.heap.objs.size f cdv)) → sp vs H Q E →
      ∃ t, PSs (cxOf CX P w K mg base N q scope f cdv A outer s H E) body t ∧ t { nx := fun _ H' => Q .non H', rt := Q } (start N vs) H) : MetX P w K mg base CX (k + 1) C m sp :=
  ⟨f, fd, ps, F.ok S len hbody, hm, b⟩
theorem makx {CX : CXT} {q : Str} {params : Arguments} {body : List Stmt} {scope : Scope} {C f : Addr} {fd : FuncData} {N ps : List Str} {k : Nat} {sp : Sp} (F : FunD K "__init__" q params body scope [] [] f fd) (hm : Mk K C f) (S : FnScope N ps scope)
    (b : Binds K fd ps []) (len : ∀ vs H Q E, sp vs H Q E → vs.length = ps.length)
    (hbody : ∀ (cdv : Value) (A : Around) (outer : List Env) (s : Shared) (H : Hp) (vs : List V) (Q : VK) (E : XK), Room k (A.deeper (envOfC q scope s.heap.objs.size f cdv)) → sp vs H Q E →
      ∃ t, PSs (cxOf CX P w K mg base N q scope f cdv A outer s H E) body t ∧ t { nx := fun _ H' => Q .non H', rt := Q } (start N vs) H) : MakX P w K mg base CX (k + 1) C sp :=
  ⟨f, fd, ps, F.ok S len hbody, hm, b⟩
end
/-! ### isinstance of the caught error and a tuple of classes -/
def rIsEdT (K : PySem.W.Frag) (a : Addr) (cls : Value) (d : Option Addr) : List V → Hp → VK → Prop := fun xs H Q => ∃ (tp : Addr) (cs : List V) (ws : List Value) (b : Bool) (D dd : Addr) (fs : List (Str × V)), xs = [.ref a, .ref tp] ∧ H tp = some (.tup cs) ∧ Paired ClsV cs ws ∧ cls = .ref D ∧ ExcC K D ∧ d = some dd ∧ H dd = some (.xd fs) ∧
  PySem.W.kitAny K (.ref D) ws = some b ∧ Q (.bl b) H
theorem call_isEdT {X : Cx} {a : Addr} {cls : Value} {d : Option Addr} {oe : Obj} {pn : List (Addr × Obj)} (hz : Zc cls d oe) (hf : ∃ vs, oe.data = .fields vs) : CallR (X.suite a ((a, oe) :: pn)) (.builtin "isinstance") (rIsEdT X.K a cls d) := by
  intro pins s σ H xs us Q I r h
  obtain ⟨tp, cs, ws, b, D, dd, fs, rfl, hT, hcs, rfl, C, rfl, hdd, e, q⟩ := h
  cases r with
  | cons rx rr =>
    cases rr with
    | cons rt rr =>
      cases rr
      cases rx
      cases rt
      obtain ⟨_, its, rv, o, h1, h2, n, h3⟩ := (show ObjOk X.prog X.w H s.heap tp (.tup cs) from I.hok tp _ hT)
      have e3 := ClsV.all hcs rv
      subst e3
      obtain ⟨oc, od, dt, sl⟩ := o
      simp only at h2 h3
      subst h2 h3
      obtain ⟨hget, _⟩ := I.pin (a, oe) (List.mem_append.mpr (.inl List.mem_cons_self))
      obtain ⟨vs, hv⟩ := hf
      have hx : ObjOk X.prog X.w H s.heap dd (.xd fs) := I.hok dd _ hdd
      obtain ⟨mA, hns, hr⟩ := hx
      obtain ⟨od, ho, hl⟩ := lookIn_ns hns
      have J : PySem.W.InstAt s.heap a oe D (some od) := ⟨hget, hz.1, by unfold PySem.W.notCls; rw [hv] <;> rfl, by rw [hz.2]; exact ho⟩
      have hcl : (PySem.W.clsIn X.K D).isSome = true := by
        obtain ⟨cd, hc, _⟩ := PySem.W.any_some C.hd
        rw [hc] <;> rfl
      exact PySem.W.kia_tup (PySem.W.kitx_exc hcl C.hg C.hk C.hs C.ha C.hn C.ht C.hm) I.kIn J h1 e (fun z => nomatch z) fun tk => ⟨.bl b, H, I.kept (t' := tk) fun _ _ z => z, rfl, q⟩
/-! ### xs.count(x), texts -/
def eqs (k : Str) : Value → Bool
  | .str x _ => x.cps.toList == k.cps.toList
  | _ => false
def rCntS (K : PySem.W.Frag) : V → List V → Hp → VK → Prop := fun x xs H Q => ∃ (p : Addr) (ns : List (List Nat)) (k : List Nat), x = .ref p ∧ xs = [.str (S k)] ∧ SqL K H p (ns.map fun r => V.str (S r)) ∧ Q (.int (ns.count k : Nat)) H
theorem eqs_gives {k : List Nat} {t : Tok} : ∀ {ns : List (List Nat)} {us : List Value}, Vals (ns.map fun r => V.str (S r)) us → ∀ y ∈ us, MeetsSeq.EqGives y (.str (S k) t) (eqs (S k) y)
  | [], _, .nil, y, h => by cases h
  | n :: ns, _, .cons r rs, y, h => by
    rcases List.mem_cons.mp h with e | e
    · obtain ⟨t', rfl⟩ := r
      rw [e]
      exact SeqRoads2.EqGives.str (S n) (S k) t' t
    · exact eqs_gives rs y e
theorem eqs_count {k : List Nat} : ∀ {ns : List (List Nat)} {us : List Value}, Vals (ns.map fun r => V.str (S r)) us → us.countP (eqs (S k)) = ns.count k
  | [], _, .nil => rfl
  | n :: ns, _, .cons r rs => by
    obtain ⟨t', rfl⟩ := r
    rw [List.countP_cons, List.count_cons, eqs_count rs]
    congr 1
theorem mt_lcountS {X : Cx} : MtR X "list.count" (rCntS X.K) := by
  intro pins s σ H x xs v us Q I rx rxs h
  obtain ⟨p, ns, k, rfl, rfl, hs, q⟩ := h
  cases rx
  obtain ⟨u, rfl, ru⟩ := rxs.one
  obtain ⟨t, rfl⟩ := ru
  obtain ⟨its, rv, ⟨⟨cls, dd, data, sl⟩, n, ho, hc, hdn, hd⟩, hlen⟩ := I.list hs
  simp only at hc hd
  subst hc hd
  refine call_meets PySem.F.slot_list_count ⟨_, ho, rfl⟩ PySem.F.entry_list_count (PySem.F.args_list_count_2 _ _)
    (SeqAt.list_countAt p its.toArray n dd sl (.str (S k) t) (eqs (S k))) ⟨ho, fun y hy => (eqs_gives rv y (by simpa using hy)).at _ _, ?_⟩
  have ec : its.toArray.toList.countP (eqs (S k)) = ns.count k := eqs_count rv
  refine ⟨.int (ns.count k : Nat), H, I.tok _, ⟨s.toks, ?_⟩, q⟩
  show Value.int ((its.toArray.toList.countP (eqs (S k)) : Nat) : Int) s.toks = Value.int ((ns.count k : Nat) : Int) s.toks
  rw [ec]
/-! ### int(flag) -/
def rIntB : List V → Hp → VK → Prop := fun xs H Q => ∃ k, xs = [.bl k] ∧ Q (.int (if k then 1 else 0)) H
theorem call_intB {X : Cx} : CallR X (.type "int") rIntB := fun pins s σ H xs us Q I r ⟨k, e, q⟩ => call_int1 pins s σ H xs us Q I r (.inr ⟨k, e, q⟩)
/-! ### texts -/
def strp (l : List Nat) : List Nat := ((l.dropWhile (· == 32)).reverse.dropWhile (· == 32)).reverse
theorem tl_S (l : List Nat) : tl (S l) = l := S_get l
theorem strip_S (l : List Nat) : Txt.stripChars (S l) (S [32]) = S (strp l) := by
  have hg : ∀ c, (S [32]).cps.contains c = (c == 32) := fun c => by
    show (#[32] : Array Nat).contains c = _
    simp [Array.contains]
  have hg' : (S [32]).cps.contains = fun c => c == 32 := funext hg
  have dw : ∀ l : List Nat, l.dropWhile (· == 32) = l.drop (l.takeWhile (· == 32)).length := fun l => by
    induction l with
    | nil => rfl
    | cons c r ih =>
      by_cases h : c = 32
      · subst h; rw [List.dropWhile_cons_of_pos (by rfl), List.takeWhile_cons_of_pos (by rfl), List.length_cons, List.drop_succ_cons]; exact ih
      · rw [List.dropWhile_cons_of_neg (by simpa using h), List.takeWhile_cons_of_neg (by simpa using h)]; rfl
  have key : tl (stripped (S [32]).cps.contains true true (S l)) = strp l := by
    unfold stripped
    rw [tl_strSub, hg']
    unfold stripLo stripHi
    rw [if_pos rfl, if_pos rfl, S_get, S_len]
    unfold strp
    rw [dw l, dw ((l.drop _).reverse), List.drop_reverse, List.reverse_reverse]
    congr 1
    have h1 : (List.takeWhile (· == 32) l).length ≤ l.length := (List.takeWhile_sublist _).length_le
    rw [List.length_drop]
    omega
  unfold Txt.stripChars Txt.stripBy
  by_cases h : stripSame (S [32]).cps.contains true true (S l) = true
  · rw [if_pos h]
    refine ext_tl ?_
    rw [tl_S (strp l), ← key]
    unfold stripSame at h
    rw [Bool.and_eq_true, beq_iff_eq, beq_iff_eq] at h
    unfold stripped
    rw [h.2, h.1]
    have := tl_strSub_end (S l) 0
    rw [this]; rfl
  · rw [if_neg h]
    refine ext_tl ?_
    rw [tl_S (strp l), key]
def spl32 (l : List Nat) : List (List Nat) := spl [32] 0 [] l
theorem split_S (l : List Nat) (c : Nat) (hc : c < 256) : Txt.split (S l) (S [c]) = (spl [c] 0 [] l).map S := by
  refine map_tl_inj ?_
  have hk : (S [c]).cps.all (· < 256) = true := by
    show (#[c] : Array Nat).all (· < 256) = true
    simp [hc]
  rw [split_spl _ _ (by rw [tl_S]; simp) (kind_ok hk), tl_S, tl_S, List.map_map]
  have : (tl ∘ S) = id := funext fun z => tl_S z
  rw [this, List.map_id]
theorem part_S (l : List Nat) (c : Nat) : Txt.partition (S l) (S [c]) = (match par [c] [] l with | some (a, b) => (S a, S [c], S b) | none => (S l, S [], S [])) := by
  rw [partition_par _ _ (by rw [tl_S]; simp), tl_S, tl_S]
  rfl
theorem start_S (l : List Nat) (c : Nat) : Txt.startswith (S l) (S [c]) = decide (l[0]? = some c) := by
  unfold Txt.startswith
  rw [S_len, S_len, subAt_eq, S_len]
  have e1 : tl (S l) = l := tl_S l
  have e2 : tl (S [c]) = [c] := tl_S [c]
  show (decide (0 + 1 ≤ l.length) && (((tl (S l)).drop 0).take 1 == tl (S [c]))) = _
  rw [e1, e2]
  cases l with
  | nil => rfl
  | cons d r => simp; exact Bool.beq_eq_decide_eq d c
theorem join_S (c : Nat) (ls : List (List Nat)) : Txt.join (S [c]) (ls.map S) = S (joinL [c] ls) := by
  refine ext_tl ?_
  rw [join_eq, tl_join, tl_S, tl_S, List.map_map]
  have : (tl ∘ S) = id := funext fun z => tl_S z
  rw [this, List.map_id]
def rSplitS : V → List V → Hp → VK → Prop := fun x xs H Q => ∃ (l : List Nat) (c : Nat), x = .str (S l) ∧ xs = [.str (S [c])] ∧ c < 256 ∧ l.length + 2 ≤ sizeLine ∧ ∀ p, H p = none → Q (.ref p) (upd H p (.lst ((spl [c] 0 [] l).map fun r => V.str (S r))))
theorem mt_splitS {X : Cx} : MtR X "str.split" rSplitS := fun pins s σ H x xs v us Q I rx rs ⟨l, c, e1, e2, hc, hz, h⟩ =>
  mt_split pins s σ H x xs v us Q I rx rs ⟨S l, S [c], e1, e2, rfl, by rw [S_len]; exact hz, fun p hp => by
    have := h p hp
    rw [split_S l c hc, List.map_map]; exact this⟩
def rStripS : V → List V → Hp → VK → Prop := fun x xs H Q => ∃ l : List Nat, x = .str (S l) ∧ xs = [.str (S [32])] ∧ l.length ≤ sizeLine ∧ Q (.str (S (strp l))) H
theorem mt_stripS {X : Cx} : MtR X "str.strip" rStripS := fun pins s σ H x xs v us Q I rx rs ⟨l, e1, e2, hz, h⟩ =>
  mt_stripChars pins s σ H x xs v us Q I rx rs ⟨S l, S [32], e1, e2, by rw [S_len]; exact hz, by rw [strip_S]; exact h⟩
def rPartS : V → List V → Hp → VK → Prop := fun x xs H Q => ∃ (l : List Nat) (c : Nat), x = .str (S l) ∧ xs = [.str (S [c])] ∧ l.length ≤ sizeLine ∧
  ∀ p, H p = none → Q (.ref p) (upd H p (.tup (match par [c] [] l with | some (a, b) => [.str (S a), .str (S [c]), .str (S b)] | none => [.str (S l), .str (S []), .str (S [])])))
theorem mt_partS {X : Cx} : MtR X "str.partition" rPartS := fun pins s σ H x xs v us Q I rx rs ⟨l, c, e1, e2, hz, h⟩ =>
  mt_partition pins s σ H x xs v us Q I rx rs ⟨S l, S [c], e1, e2, rfl, by rw [S_len]; exact hz, fun p hp => by
    have := h p hp
    rw [part_S]
    cases e : par [c] [] l with
    | none => rw [e] at this; exact this
    | some q => rw [e] at this; exact this⟩
def rStartS : V → List V → Hp → VK → Prop := fun x xs H Q => ∃ (l : List Nat) (c : Nat), x = .str (S l) ∧ xs = [.str (S [c])] ∧ Q (.bl (decide (l[0]? = some c))) H
theorem mt_startS {X : Cx} : MtR X "str.startswith" rStartS := fun pins s σ H x xs v us Q I rx rs ⟨l, c, e1, e2, h⟩ =>
  mt_startswith pins s σ H x xs v us Q I rx rs ⟨S l, S [c], e1, e2, by rw [start_S]; exact h⟩
def rJoinS (K : PySem.W.Frag) : V → List V → Hp → VK → Prop := fun x xs H Q => ∃ (c : Nat) (p : Addr) (ls : List (List Nat)), x = .str (S [c]) ∧ xs = [.ref p] ∧ SqL K H p (ls.map fun r => V.str (S r)) ∧ (ls.map (·.length)).sum + ls.length ≤ 16777216 ∧ Q (.str (S (joinL [c] ls))) H
theorem mt_joinS {X : Cx} : MtR X "str.join" (rJoinS X.K) := fun pins s σ H x xs v us Q I rx rs ⟨c, p, ls, e1, e2, hp, hz, h⟩ =>
  mt_join pins s σ H x xs v us Q I rx rs ⟨S [c], p, ls.map S, e1, e2, .inl (by rw [List.map_map]; exact hp), by
    rw [List.map_map, List.length_map, S_len]
    have : ((fun x : Str => x.length) ∘ S) = List.length := funext fun z => S_len z
    rw [this]; simpa using hz, by rw [join_S]; exact h⟩
/-! ### tables of the top with text keys -/
section
variable {X : Cx} {d : Addr} {kvs : List (Str × He.Dv)}
def rInTD (d : Addr) (kvs : List (Str × He.Dv)) : R2 := fun x y H Q => ∃ z : Str, x = .str z ∧ y = .ref d ∧ Q (.bl (decide (z ∈ kvs.map (·.1)))) H
def rNotInTD (d : Addr) (kvs : List (Str × He.Dv)) : R2 := fun x y H Q => ∃ z : Str, x = .str z ∧ y = .ref d ∧ Q (.bl (!decide (z ∈ kvs.map (·.1)))) H
theorem ns_TD {K : PySem.W.Frag} {w : World} (D : HallHt.TxtD K w d kvs) (z : Str) : ∃ r : Option Value, PySem.W.nsIn K d z = some r ∧ r.isSome = decide (z ∈ kvs.map (·.1)) := by
  by_cases h : z ∈ kvs.map (·.1)
  · obtain ⟨p, hp, rfl⟩ := List.mem_map.mp h
    obtain ⟨u, e, _⟩ := D.has p hp
    exact ⟨_, e, by rw [decide_eq_true h]; rfl⟩
  · exact ⟨_, D.not z h, by rw [decide_eq_false h]; rfl⟩
theorem op_inTD (D : HallHt.TxtD X.K X.w d kvs) : OpR X (compareOp .In) (rInTD d kvs) := by
  obtain ⟨es, n, KD⟩ := D.ex
  intro pins s σ H x y v u Q I rx ry ⟨z, e1, e2, q⟩
  obtain ⟨r, h1, h2⟩ := ns_TD D z
  exact op_in_kd KD pins s σ H x y v u Q I rx ry ⟨z, r, e1, e2, h1, by rw [h2]; exact q⟩
theorem op_notInTD (D : HallHt.TxtD X.K X.w d kvs) : OpR X (compareOp .NotIn) (rNotInTD d kvs) := by
  obtain ⟨es, n, KD⟩ := D.ex
  intro pins s σ H x y v u Q I rx ry ⟨z, e1, e2, q⟩
  obtain ⟨r, h1, h2⟩ := ns_TD D z
  exact op_notIn_kd KD pins s σ H x y v u Q I rx ry ⟨z, r, e1, e2, h1, by rw [h2]; exact q⟩
def rGetTD (K : PySem.W.Frag) (d : Addr) (kvs : List (Str × He.Dv)) : R2 := fun x y H Q => ∃ p ∈ kvs, x = .ref d ∧ y = .str p.1 ∧ Q (p.2.v K) H
theorem op_getTD (D : HallHt.TxtD X.K X.w d kvs) : OpR X getItem (rGetTD X.K d kvs) := by
  obtain ⟨es, n, KD⟩ := D.ex
  intro pins s σ H x y v u Q I rx ry ⟨p, hp, e1, e2, q⟩
  obtain ⟨u0, h1, h2⟩ := D.has p hp
  exact op_item_kd KD pins s σ H x y v u Q I rx ry ⟨p.1, u0, _, e1, e2, h1, h2, q⟩
theorem ix_TD (D : HallHt.TxtD X.K X.w d kvs) : IxR X (rGetTD X.K d kvs) := by
  obtain ⟨es, n, KD⟩ := D.ex
  intro value slice pins s σ H x y v u Q I rx ry h hs
  obtain ⟨p, hp, e1, e2, q⟩ := h
  subst e1
  cases rx
  exact tail_any (kd_type KD I) PySem.F.slot_dict_getitem.lookup (op_getTD D pins s σ H (.ref d) y _ u Q I rfl ry ⟨p, hp, rfl, e2, q⟩) hs
end
end L2

/-! More steps: fields, texts' methods, dicts, last items, powers, tuples. -/
namespace L2
open PySem PySem.Spec PyProof.Rows SX TL
def CPowN (i j : Int) : Prop := 0 ≤ j ∧ (Builtin.Int.intBits i : Int) * j ≤ 2 ^ 27
def rPowN : R2 := rI CPowN fun i j => .int (i ^ j.toNat)
theorem op_powN {X : Cx} : OpR X (binaryOp .Pow) rPowN := opI fun _ _ _ _ _ _ _ hc q => pow_int hc.1 hc.2 q
section
variable {σ : St} {H : Hp} {i : Nat} {v x y z : V} {ta tb tc te tv : TE} {tt uu : TT} {tA tR : TA} {Q : VK} {QB : Bool → Hp → Prop} {QA : List V → Hp → Prop} {D : Ends} {t u : TS} {g : TG} {K : PySem.W.Frag}
theorem w_powN {a b : Int} (hc : CPowN a b) (h : Q (.int (a ^ b.toNat)) H) : rPowN (.int a) (.int b) H Q := ⟨a, b, rfl, rfl, hc, h⟩
theorem w_intB {k : Bool} (h : Q (.int (if k then 1 else 0)) H) : rIntB [.bl k] H Q := ⟨k, rfl, h⟩
theorem w_fld {f : Str} (h : ta σ H fun x H1 => ∃ a C dx fs v, x = .ref a ∧ H1 a = some (.ins C dx fs) ∧ Cls K C ∧ NoAttr K C f ∧ fs.lookup f = some v ∧ Q v H1) : tFld K ta f σ H Q := h
theorem w_fldA {R : V → Prop} {a C dx : Addr} {fs : List (Str × V)} {f : Str} (e : H a = some (.ins C dx fs)) (c : Cls K C) (n : NoAttr K C f) (l : fs.lookup f = some v) (h : R v) : ∃ a' C' dx' fs' v', V.ref a = .ref a' ∧ H a' = some (.ins C' dx' fs') ∧ Cls K C' ∧ NoAttr K C' f ∧ fs'.lookup f = some v' ∧ R v' := ⟨a, C, dx, fs, v, rfl, e, c, n, l, h⟩
theorem w_setf {f : Str} (h : tv σ H fun y H1 => ta σ H1 fun x H2 => ∃ a C dx fs, x = .ref a ∧ H2 a = some (.ins C dx fs) ∧ Cls K C ∧ NoAttr K C f ∧ fs.length < 1000 ∧ D.nx σ (upd H2 a (.ins C dx (putF f y fs)))) : sFld K ta tv f D σ H := h
theorem w_setfA {R : Addr → Addr → Addr → List (Str × V) → Prop} {a C dx : Addr} {fs : List (Str × V)} {f : Str} (e : H a = some (.ins C dx fs)) (c : Cls K C) (n : NoAttr K C f) (l : fs.length < 1000) (h : R a C dx fs) : ∃ a' C' dx' fs', V.ref a = .ref a' ∧ H a' = some (.ins C' dx' fs') ∧ Cls K C' ∧ NoAttr K C' f ∧ fs'.length < 1000 ∧ R a' C' dx' fs' := ⟨a, C, dx, fs, rfl, e, c, n, l, h⟩
theorem w_faug {rd : V → V → Hp → VK → Prop} {f : Str} (h : ta σ H fun x H1 => ∃ a C dx fs v, x = .ref a ∧ H1 a = some (.ins C dx fs) ∧ Cls K C ∧ NoAttr K C f ∧ fs.lookup f = some v ∧
  tv σ H1 fun y H2 => rd v y H2 fun z H3 => ∃ dx' fs', H3 a = some (.ins C dx' fs') ∧ fs'.length < 1000 ∧ D.nx σ (upd H3 a (.ins C dx' (putF f z fs')))) : sFldAug K ta tv rd f D σ H := h
theorem w_meth {C : Addr} {m : Str} {sp : Sp} {E : XK} (h : ta σ H fun x H1 => ∃ a dx fs, x = .ref a ∧ H1 a = some (.ins C dx fs) ∧ fs.lookup m = none ∧ tA σ H1 fun vs H2 => sp (x :: (vs ++ [])) H2 Q E) : tMeth C m sp [] E ta tA σ H Q := h
theorem w_isN (h : Q (.bl (decide (x = .non))) H) : (fun x y H Q => y = V.non ∧ Q (.bl (decide (x = V.non))) H : R2) x .non H Q := ⟨rfl, h⟩
theorem w_bmS {rm : V → List V → Hp → VK → Prop} {z : Str} (h : tA σ H fun xs H2 => rm (.str z) xs H2 Q) : tyV K "str" (.str z) H ∧ tA σ H fun xs H2 => rm (.str z) xs H2 Q := ⟨rfl, h⟩
theorem w_split {l : List Nat} {c : Nat} (hc : c < 256) (hz : l.length + 2 ≤ sizeLine) (h : ∀ p, H p = none → Q (.ref p) (upd H p (.lst ((spl [c] 0 [] l).map fun r => V.str (SX.S r))))) : rSplitS (.str (SX.S l)) [.str (SX.S [c])] H Q := ⟨l, c, rfl, rfl, hc, hz, h⟩
theorem w_strip {l : List Nat} (hz : l.length ≤ sizeLine) (h : Q (.str (SX.S (strp l))) H) : rStripS (.str (SX.S l)) [.str (SX.S [32])] H Q := ⟨l, rfl, rfl, hz, h⟩
theorem w_start {l : List Nat} {c : Nat} (h : Q (.bl (decide (l[0]? = some c))) H) : rStartS (.str (SX.S l)) [.str (SX.S [c])] H Q := ⟨l, c, rfl, rfl, h⟩
theorem w_join {l : List (List Nat)} {c : Nat} {p : Addr} (hs : SqL K H p (l.map fun r => V.str (SX.S r))) (hz : (l.map (·.length)).sum + l.length ≤ 16777216) (h : Q (.str (SX.S (joinL [c] l))) H) : rJoinS K (.str (SX.S [c])) [.ref p] H Q := ⟨c, p, l, rfl, rfl, hs, hz, h⟩
theorem w_prt {l : List Nat} {c : Nat} (hz : l.length ≤ sizeLine) (h : ∀ p, H p = none → Q (.ref p) (upd H p (.tup (match par [c] [] l with | some (a, b) => [.str (SX.S a), .str (SX.S [c]), .str (SX.S b)] | none => [.str (SX.S l), .str (SX.S []), .str (SX.S [])])))) : rPartS (.str (SX.S l)) [.str (SX.S [c])] H Q := ⟨l, c, rfl, rfl, hz, h⟩
theorem w_cnt1 {ns : List (List Nat)} {k : List Nat} {p : Addr} (hs : SqL K H p (ns.map fun r => V.str (SX.S r))) (h : Q (.int (ns.count k : Nat)) H) : rCntS K (.ref p) [.str (SX.S k)] H Q := ⟨p, ns, k, rfl, rfl, hs, h⟩
theorem w_lstTyQ {p : Addr} {xs : List V} {F : Prop} (hp : SqL K H p xs) (h : F) : tyV K "list" (.ref p) H ∧ F := ⟨.inl ⟨rfl, _, hp⟩, h⟩
theorem w_ixLm {p : Addr} {xs : List V} (hs : SqL K H p (xs ++ [v])) (h : Q v H) : rIxL K (.ref p) (.int (-1)) H Q := ⟨p, _, _, v, rfl, rfl, hs, atI_last xs v, h⟩
theorem w_setLm {p : Addr} {xs : List V} {F : Hp → Prop} (hp : H p = some (.lst (xs ++ [x]))) (h : F (upd H p (.lst (xs ++ [v])))) : rSetL (.ref p) (.int (-1)) v H F := by
  refine ⟨p, xs ++ [x], -1, xs.length, rfl, rfl, hp, ?_, ?_⟩
  · unfold ixN
    have hl : (xs ++ [x]).length = xs.length + 1 := by simp
    rw [hl, if_neg (by decide), if_pos (by omega)]
    congr 1
    omega
  · rw [List.set_append_right _ _ (Nat.le_refl _), Nat.sub_self]; exact h
theorem w_repL {p : Addr} {xs : List V} {n : Nat} (hp : H p = some (.lst xs)) (hn : n < 2 ^ 62) (hz : xs.length * n ≤ sizeLine) (h : ∀ q, H q = none → Q (.ref q) (upd H q (.lst (List.replicate n xs).flatten))) : rRep (.ref p) (.int (n : Int)) H Q :=
  ⟨p, n, xs, rfl, rfl, hp, by omega, by omega, by rw [Int.toNat_natCast]; exact hz, by rw [Int.toNat_natCast]; exact h⟩
theorem w_catU {p q : Addr} {xs ys : List V} (hp : SqT K H p xs) (hq : SqT K H q ys) (hx : xs ≠ []) (hy : ys ≠ []) (hz : xs.length + ys.length ≤ 4096) (h : ∀ t, H t = none → Q (.ref t) (upd H t (.tup (xs ++ ys)))) : rCatT K (.ref p) (.ref q) H Q :=
  ⟨p, q, xs, ys, rfl, rfl, hp, hq, hx, Nat.le_trans hz (by decide), fun z => absurd z hy, fun _ => h⟩
theorem w_tTo {p : Addr} {l : List V} {b : Nat} (hs : SqT K H p l) (hb : b < l.length) (h : ∀ q, H q = none → Q (.ref q) (upd H q (.tup (l.take b)))) : rSlT K (.ref p) none (some (b : Int)) H Q := ⟨p, l, rfl, hs, by rw [HT.sIx_nat]; intro z; have := z.2; omega, by rw [cut_to]; exact h⟩
theorem w_tupL {p : Addr} {ys : List V} (hs : SqL K H p ys) (h : ∀ l, H l = none → Q (.ref l) (upd H l (.tup ys))) : rTupL K [.ref p] H Q := ⟨p, ys, rfl, hs, h⟩
theorem w_lstQL {p : Addr} {ys : List V} (hs : SqL K H p ys) (h : ∀ l, H l = none → Q (.ref l) (upd H l (.lst ys))) : rLstQ K [.ref p] H Q := ⟨p, ys, rfl, .inl hs, h⟩
/-! ### data -/
theorem dpS {H : Hp} : ∀ ws : List (List Nat), DpAll K H (ws.map fun r => V.str (SX.S r)) (ws.map fun r => PyData.str (SX.S r))
  | [] => .nil
  | w :: ws => .cons (.str _) (dpS ws)
/-- plain signs alone -/
def Cok (l : List Nat) : Prop := ∀ c ∈ l, c < 256
theorem strOk_S {l : List Nat} (h : Cok l) : PyData.strOk (SX.S l) = true := by
  unfold PyData.strOk
  rw [Array.all_eq_true']
  intro c hc
  have hc' : c ∈ (SX.S l).cps.toList := by simpa using hc
  rw [S_get] at hc'
  exact decide_eq_true (Nat.lt_trans (h c hc') (by decide))
theorem shS : ∀ ws : List (List Nat), (∀ w ∈ ws, Cok w) → PyData.canLayAll0 (ws.map fun r => PyData.str (SX.S r)) = true ∧ PyData.depthAll (ws.map fun r => PyData.str (SX.S r)) ≤ 1
  | [], _ => ⟨rfl, Nat.zero_le _⟩
  | w :: ws, h => by
    obtain ⟨h1, h2⟩ := shS ws fun v hv => h v (List.mem_cons_of_mem _ hv)
    refine ⟨?_, ?_⟩
    · simp only [List.map_cons, PyData.canLayAll0, PyData.canLay0]
      rw [strOk_S (h w List.mem_cons_self), h1]; rfl
    · simp only [List.map_cons, PyData.depthAll, PyData.depth]
      omega
theorem shL {ws : List (List Nat)} (h : ∀ w ∈ ws, Cok w) : SeqAt.shaped (.list (ws.map fun r => PyData.str (SX.S r))) = true := by
  obtain ⟨h1, h2⟩ := shS ws h
  show ((PyData.canLay0 (.list _)) && decide (PyData.depth (.list _) ≤ 64)) = true
  rw [Bool.and_eq_true]
  refine ⟨by simp only [PyData.canLay0]; exact h1, decide_eq_true ?_⟩
  simp only [PyData.depth]; omega
theorem eqvS : ∀ ws vs : List (List Nat), PyData.eqvAll (ws.map fun r => PyData.str (SX.S r)) (vs.map fun r => PyData.str (SX.S r)) = decide (ws = vs)
  | [], [] => rfl
  | [], _ :: _ => rfl
  | _ :: _, [] => rfl
  | w :: ws, v :: vs => by
    simp only [List.map_cons, PyData.eqvAll, PyData.eqv, eqvS ws vs]
    by_cases h : w = v
    · subst h; simp
    · have : (SX.S w == SX.S v) = false := by
        rw [beq_eq_false_iff_ne]; exact fun z => h (SX.S_inj z)
      simp [this, h]
theorem w_eqW {p q : Addr} {ws vs : List (List Nat)} (hp : SqL K H p (ws.map fun r => V.str (SX.S r))) (hq : SqL K H q (vs.map fun r => V.str (SX.S r))) (h1 : ∀ w ∈ ws, Cok w) (h2 : ∀ w ∈ vs, Cok w) (h : Q (.bl (decide (ws = vs))) H) : rEqD K (.ref p) (.ref q) H Q :=
  ⟨_, _, .lst hp (dpS ws), .lst hq (dpS vs), shL h1, shL h2, by simp only [PyData.eqv, eqvS]; exact h⟩
end
end L2

/-! New things told by what stands, not by how: Same. -/
namespace L2
open PySem PySem.Spec PyProof.Rows SX TL
theorem same_upd {H : Hp} {p : Addr} {o : HO} (h : H p = none) : Same H (upd H p o) := fun b u e => by
  rw [upd_ne (ne_of_none e h)]; exact e
theorem Same.tr {H H1 H2 : Hp} (h : Same H H1) (k : Same H1 H2) : Same H H2 := fun b u e => k b u (h b u e)
theorem SqL.sm {K : PySem.W.Frag} {H H' : Hp} {a : Addr} {xs : List V} (h : SqL K H a xs) (e : Same H H') : SqL K H' a xs :=
  h.elim (fun h => .inl (h.elim (fun h => .inl (e _ _ h)) fun ⟨o, h⟩ => .inr ⟨o, e _ _ h⟩)) fun h => .inr h
/-- a new list, a new tuple -/
def NewL (xs : List V) (H : Hp) (Q : VK) : Prop := xs.length ≤ sizeLine ∧ ∀ p, H p = none → Q (.ref p) (upd H p (.lst xs))
def NewT (xs : List V) (H : Hp) (Q : VK) : Prop := xs.length ≤ sizeLine ∧ ∀ p, H p = none → Q (.ref p) (upd H p (.tup xs))
/-- all but p is as it was -/
def Ex (p : Addr) (H H' : Hp) : Prop := ∀ b, b ≠ p → H' b = H b
section
variable {σ : St} {H : Hp} {v : V} {tA : TA} {Q : VK} {K : PySem.W.Frag}
theorem w_lstN (h : tA σ H fun xs H1 => NewL xs H1 Q) : tLst tA σ H Q := h
theorem w_tupN (h : tA σ H fun xs H1 => NewT xs H1 Q) : tTup tA σ H Q := h
theorem n_L {xs : List V} (h : ∀ p H', H p = none → Same H H' → H' p = some (.lst xs) → Q (.ref p) H') (hz : xs.length ≤ 4096 := by exact Nat.le_of_ble_eq_true rfl) : NewL xs H Q :=
  ⟨Nat.le_trans hz (by decide), fun p hp => h p _ hp (same_upd hp) upd_same⟩
theorem n_T {xs : List V} (h : ∀ p H', H p = none → Same H H' → H' p = some (.tup xs) → Q (.ref p) H') (hz : xs.length ≤ 4096 := by exact Nat.le_of_ble_eq_true rfl) : NewT xs H Q :=
  ⟨Nat.le_trans hz (by decide), fun p hp => h p _ hp (same_upd hp) upd_same⟩
theorem n_to {p : Addr} {l : List V} {b : Nat} (hs : SqL K H p l) (h : ∀ q H', H q = none → Same H H' → H' q = some (.lst (l.take b)) → Q (.ref q) H') : rSlL K (.ref p) none (some (b : Int)) H Q := w_lTo hs fun q hq => h q _ hq (same_upd hq) upd_same
theorem n_from {p : Addr} {l : List V} {a : Nat} (hs : SqL K H p l) (h : ∀ q H', H q = none → Same H H' → H' q = some (.lst (l.drop a)) → Q (.ref q) H') : rSlL K (.ref p) (some (a : Int)) none H Q := w_lFrom hs fun q hq => h q _ hq (same_upd hq) upd_same
theorem n_mid {p : Addr} {l : List V} {a b : Nat} (hs : SqL K H p l) (h : ∀ q H', H q = none → Same H H' → H' q = some (.lst ((l.drop a).take (b - a))) → Q (.ref q) H') : rSlL K (.ref p) (some (a : Int)) (some (b : Int)) H Q := w_lMid hs fun q hq => h q _ hq (same_upd hq) upd_same
theorem n_cat {p q : Addr} {xs zs : List V} (hp : H p = some (.lst xs)) (hq : H q = some (.lst zs)) (hz : xs.length + zs.length ≤ 100000) (h : ∀ t H', H t = none → Same H H' → H' t = some (.lst (xs ++ zs)) → Q (.ref t) H') : rCat (.ref p) (.ref q) H Q :=
  w_catL hp hq (Nat.le_trans hz (by decide)) fun t ht => h t _ ht (same_upd ht) upd_same
theorem n_rep {p : Addr} {xs : List V} {n : Nat} (hp : H p = some (.lst xs)) (hz : xs.length * n ≤ 100000) (hn : n ≤ 100000) (h : ∀ q H', H q = none → Same H H' → H' q = some (.lst (List.replicate n xs).flatten) → Q (.ref q) H') : rRep (.ref p) (.int (n : Int)) H Q :=
  w_repL hp (Nat.lt_of_le_of_lt hn (by decide)) (Nat.le_trans hz (by decide)) fun t ht => h t _ ht (same_upd ht) upd_same
theorem n_tup {p : Addr} {ys : List V} (hs : SqL K H p ys) (h : ∀ l H', H l = none → Same H H' → H' l = some (.tup ys) → Q (.ref l) H') : rTupL K [.ref p] H Q := w_tupL hs fun t ht => h t _ ht (same_upd ht) upd_same
theorem n_lst {p : Addr} {ys : List V} (hs : SqL K H p ys) (h : ∀ l H', H l = none → Same H H' → H' l = some (.lst ys) → Q (.ref l) H') : rLstQ K [.ref p] H Q := w_lstQL hs fun t ht => h t _ ht (same_upd ht) upd_same
theorem n_catU {p q : Addr} {xs ys : List V} (hp : SqT K H p xs) (hq : SqT K H q ys) (hx : xs ≠ []) (hy : ys ≠ []) (hz : xs.length + ys.length ≤ 4096) (h : ∀ t H', H t = none → Same H H' → H' t = some (.tup (xs ++ ys)) → Q (.ref t) H') : rCatT K (.ref p) (.ref q) H Q :=
  w_catU hp hq hx hy hz fun t ht => h t _ ht (same_upd ht) upd_same
theorem n_tTo {p : Addr} {l : List V} {b : Nat} (hs : SqT K H p l) (hb : b < l.length) (h : ∀ q H', H q = none → Same H H' → H' q = some (.tup (l.take b)) → Q (.ref q) H') : rSlT K (.ref p) none (some (b : Int)) H Q := w_tTo hs hb fun t ht => h t _ ht (same_upd ht) upd_same
theorem n_split {l : List Nat} {c : Nat} (hc : c < 256) (hz : l.length + 2 ≤ sizeLine) (h : ∀ p H', H p = none → Same H H' → H' p = some (.lst ((spl [c] 0 [] l).map fun r => V.str (SX.S r))) → Q (.ref p) H') : rSplitS (.str (SX.S l)) [.str (SX.S [c])] H Q := w_split hc hz fun t ht => h t _ ht (same_upd ht) upd_same
theorem n_part {l : List Nat} {c : Nat} (hz : l.length ≤ sizeLine) (h : ∀ p H', H p = none → Same H H' → H' p = some (.tup (match par [c] [] l with | some (a, b) => [.str (SX.S a), .str (SX.S [c]), .str (SX.S b)] | none => [.str (SX.S l), .str (SX.S []), .str (SX.S [])])) → Q (.ref p) H') : rPartS (.str (SX.S l)) [.str (SX.S [c])] H Q := w_prt hz fun t ht => h t _ ht (same_upd ht) upd_same
theorem n_app {p : Addr} {xs : List V} (hp : H p = some (.lst xs)) (hz : xs.length ≤ 100000) (h : ∀ H', H' p = some (.lst (xs ++ [v])) → Ex p H H' → Q .non H') : rAppend (.ref p) [v] H Q :=
  w_app hp (Nat.lt_of_le_of_lt hz (by decide)) (h _ upd_same fun b hb => upd_ne hb)
theorem n_lTy {p : Addr} {xs : List V} {F : Prop} (hp : H p = some (.lst xs)) (h : F) : tyV K "list" (.ref p) H ∧ F := ⟨.inl ⟨rfl, _, SqL.of hp⟩, h⟩
theorem lc_const {a : Addr} {xs : List V} {i : Nat} {σ : St} {H1 : Hp} {D : Addr} {Qd : Hp → Prop} (hx : SqL K H1 a xs) (hD : H1 D = none) (hz : xs.length ≤ 100000) (h : ∀ H', Same H1 H' → H' D = some (.lst (List.replicate xs.length v)) → Qd H') :
    ∃ W : Nat → Nat → Hp → Prop, (∃ m, W 0 m (upd H1 D (.lst []))) ∧ ∀ j m H, W j m H →
      ((Itl K a).stop j H ∧ Qd H) ∨ ((Itl K a).go j H ∧ ∃ Nx : Hp → Prop, (∀ H', Nx H' → ∃ m', m' < m ∧ W (j + 1) m' H') ∧ ∀ x H', (Itl K a).yld j H x H' → gName i x (wipe σ [i]) H' fun σ2 H2 => wipe σ2 [i] = wipe σ [i] ∧ tYes σ2 H2 fun b H3 =>
        if b = true then tC v σ2 H3 fun y H4 => ∃ acc, H4 D = some (.lst acc) ∧ acc.length < sizeLine ∧ Nx (upd H4 D (.lst (acc ++ [y]))) else Nx H3) := by
  refine lc_list (xs := xs) (fun j H' => Same H1 H' ∧ H' D = some (.lst (List.replicate j v))) ⟨same_upd hD, upd_same⟩ (fun j H' _ p => hx.sm p.1) ?_ (fun H' p => h H' p.1 p.2)
  rintro j x H' hj ⟨s, e⟩
  have hj' : j < xs.length := (List.getElem?_eq_some_iff.mp hj).1
  refine ⟨?_, ?_⟩
  · show ((σ.set i none).set i (some x)).set i none = σ.set i none
    rw [List.set_set, List.set_set]
  · show ∃ acc, H' D = some (.lst acc) ∧ acc.length < sizeLine ∧ _
    refine ⟨_, e, Nat.lt_of_le_of_lt (show _ ≤ 100000 by rw [List.length_replicate]; omega) (by decide), ⟨fun b o q => ?_, by rw [upd_same, List.replicate_succ']⟩⟩
    rw [upd_ne (ne_of_none q hD)]; exact s b o q
end
end L2

namespace K36
open PySem PySem.Spec PyProof.Rows L2
abbrev P : Program := PySem.Challenge.pw_lemmahall_k36_whole_book_texts
def top (i : Nat) : Stmt := PySem.Challenge.pw_lemmahall_k36_whole_book_texts.main.body.getD i (.Pass ⟨0, 0, 0, 0⟩)
abbrev s_is_name : Stmt := top 12
abbrev s_words : Stmt := top 18
abbrev s_rest : Stmt := top 19
abbrev s_read_title : Stmt := top 20
abbrev s_read_leans : Stmt := top 21
abbrev s_read_script : Stmt := top 22
abbrev s_read_item : Stmt := top 23
abbrev s_parse_book : Stmt := top 24
abbrev s_law_purse : Stmt := top 26
abbrev s_law_mixed : Stmt := top 27
abbrev s_law_take : Stmt := top 28
abbrev s_law_is_name : Stmt := top 29
abbrev s_law_name : Stmt := top 30
abbrev s_law_odd_word : Stmt := top 31
abbrev s_law_row : Stmt := top 32
abbrev s_law_text_of : Stmt := top 33
abbrev s_law_rest_of : Stmt := top 34
abbrev s_law_remarks : Stmt := top 35
abbrev s_law_body : Stmt := top 36
abbrev s_law_tactic : Stmt := top 37
abbrev s_law_item_rows : Stmt := top 38
abbrev s_law_build : Stmt := top 39
abbrev s_law_other_words : Stmt := top 40
abbrev s_law_edit : Stmt := top 41
abbrev s_law_stretched : Stmt := top 42
abbrev s_law_item : Stmt := top 43
abbrev s_law_leans_fit : Stmt := top 44
abbrev s_law_judge : Stmt := top 45
abbrev s_law_same : Stmt := top 46
abbrev s_law_right : Stmt := top 47
abbrev s_law : Stmt := top 48
def dd (x : Str) (i : Nat) : He.DefD := ⟨(x, none), x, x, defArgs (top i), defBody (top i), defScope (top i), [], []⟩
abbrev s_BookLines_init : Stmt := inClass (top 17) 0
abbrev s_BookLines_following : Stmt := inClass (top 17) 1
abbrev s_BookLines_beyond : Stmt := inClass (top 17) 2
def ddm (c m q : Str) (i j : Nat) : He.DefD := ⟨(c, some m), m, q, defArgs (inClass (top i) j), defBody (inClass (top i) j), defScope (inClass (top i) j), [], []⟩
def fn : List He.DefD := ([dd "is_name" 12, dd "_words" 18, dd "_rest" 19, dd "_read_title" 20, dd "_read_leans" 21, dd "_read_script" 22, dd "_read_item" 23, dd "parse_book" 24, dd "_law_purse" 26, dd "_law_mixed" 27, dd "_law_take" 28, dd "_law_is_name" 29, dd "_law_name" 30, dd "_law_odd_word" 31, dd "_law_row" 32, dd "_law_text_of" 33, dd "_law_rest_of" 34, dd "_law_remarks" 35, dd "_law_body" 36, dd "_law_tactic" 37, dd "_law_item_rows" 38, dd "_law_build" 39, dd "_law_other_words" 40, dd "_law_edit" 41] : List He.DefD) ++ ([dd "_law_stretched" 42, dd "_law_item" 43, dd "_law_leans_fit" 44, dd "_law_judge" 45, dd "_law_same" 46, dd "_law_right" 47, dd "law" 48, ddm "BookLines" "__init__" "BookLines.__init__" 17 0, ddm "BookLines" "following" "BookLines.following" 17 1, ddm "BookLines" "beyond" "BookLines.beyond" 17 2] : List He.DefD)
def fa : List He.Fa := ([.glo "is_name", .glo "_words", .glo "_rest", .glo "_read_title", .glo "_read_leans", .glo "_read_script", .glo "_read_item", .glo "parse_book", .glo "_law_purse", .glo "_law_mixed", .glo "_law_take", .glo "_law_is_name", .glo "_law_name", .glo "_law_odd_word", .glo "_law_row", .glo "_law_text_of", .glo "_law_rest_of", .glo "_law_remarks", .glo "_law_body", .glo "_law_tactic", .glo "_law_item_rows", .glo "_law_build", .glo "_law_other_words", .glo "_law_edit"] : List He.Fa) ++ ([.glo "_law_stretched", .glo "_law_item", .glo "_law_leans_fit", .glo "_law_judge", .glo "_law_same", .glo "_law_right", .glo "law", .free "isinstance", .free "str", .free "len", .free "range", .free "tuple", .free "int", .free "list", .free "bool", .free "ValueError", .free "abs", .str "_LETTERS" "abcdefghijklmnopqrstuvwxyz", .str "_NAME_SIGNS" "abcdefghijklmnopqrstuvwxyz0123456789_", .int "_NAME_LENGTH" 16, .glo "_RESERVED", .int "MAX_LINES" 400, .int "MAX_WIDTH" 2000, .glo "SIGNS"] : List He.Fa) ++ ([.glo "HallError", .glo "InvalidText", .glo "TooLarge", .glo "BadBook", .glo "UnknownBook", .glo "BadSave", .glo "BookLines", .cls "BookLines", .noat "BookLines" "_lines", .noat "BookLines" "_place", .mkr "BookLines", .meth "BookLines" "following", .meth "BookLines" "beyond", .exm "BadBook" "BadBook" true] : List He.Fa)
def h_BadBook : HallHt.HallD := ⟨"BadBook", "line", "BadBook.__init__", defArgs (inClass (top 4) 0), defBody (inClass (top 4) 0), defScope (inClass (top 4) 0)⟩
def hs : List HallHt.HallD := [h_BadBook]
def file : Str := PySem.Challenge.pw_lemmahall_k36_whole_book_texts.main.file
def tb_RESERVED : List He.Dv := ([.str "all", .str "some", .str "lam", .str "true", .str "false", .str "bool"] : List He.Dv)
def td_SIGNS : List (Str × He.Dv) := [("data", .str "="), ("const", .str ":"), ("define", .str ":="), ("begin", .str ":"), ("theorem", .str ":")]
def ts : List He.Tab := [((fun K => He.ga K "SIGNS"), td_SIGNS.map (·.1))]
def exl (K : PySem.W.Frag) : List Bool := ([He.valsB K (He.ga K "SIGNS") td_SIGNS, He.tupB K "_RESERVED" tb_RESERVED, HallHt.hallB file K h_BadBook, HallHt.noFld K h_BadBook, decide (PySem.W.kitOne K (.ref (He.ga K "BadBook")) (.ref (He.ga K "HallError")) = some true), decide (PySem.W.kitOne K (.ref (He.ga K "BadBook")) (.ref (He.ga K "BadSave")) = some false), decide (PySem.W.kitOne K (.ref (He.ga K "BadBook")) (.ref (He.ga K "InvalidText")) = some false), decide (PySem.W.kitOne K (.ref (He.ga K "BadBook")) (.ref (He.ga K "TooLarge")) = some false), decide (PySem.W.kitOne K (.ref (He.ga K "BadBook")) (.ref (He.ga K "UnknownBook")) = some false), decide (PySem.W.kitOne K (.ref (He.ga K "BadBook")) (.type "ValueError") = some true)] : List Bool)
def ex (K : PySem.W.Frag) : Bool := (exl K).all id
abbrev R : PySem.W.OpenRow := PySem.W.OpenLaw.row PySem.Challenge.rw_lemmahall_k36_whole_book_texts
abbrev hk : PySem.W.Hook := HallHt.hookH 5 fa fn hs ex ts
def ob (s : PySem.W.SharedT) : HallHt.AlH := HallHt.obsHG 5 fa fn hs ex ts (HandSHeadRun.getT s)
theorem ob_eq (s : PySem.W.SharedT) : ob s = hk.obs s.abs := HallHt.obsHG_eq (HandSHeadRun.getT_eq s)
def loose : List PySem.Str := (["HallError", "InvalidText", "TooLarge", "BadBook", "UnknownBook", "BadSave", "BookLines", "_LETTERS", "_NAME_SIGNS", "_NAME_LENGTH", "_RESERVED", "MAX_LINES", "MAX_WIDTH", "SIGNS", "is_name", "_words", "_rest", "_read_title", "_read_leans", "_read_script", "_read_item", "parse_book", "_law_purse", "_law_mixed"] : List PySem.Str) ++ (["_law_take", "_law_is_name", "_law_name", "_law_odd_word", "_law_row", "_law_text_of", "_law_rest_of", "_law_remarks", "_law_body", "_law_tactic", "_law_item_rows", "_law_build", "_law_other_words", "_law_edit", "_law_stretched", "_law_item", "_law_leans_fit", "_law_judge", "_law_same", "_law_right"] : List PySem.Str)
theorem run (w : World) : HandSHeadRun.RunEq R (PySem.W.view R.prog [48]) hk ob 3000 loose w :=
  PySem.W.byRow2 "special-get-raises" (P := fun w => HandSHeadRun.RunEq R (PySem.W.view R.prog [48]) hk ob 3000 loose w) (fun w => by intro os; kernel_rfl) (fun w => by intro os; kernel_rfl) w
/-- what the top has written, by names -/
structure Txt (w : World) (K : PySem.W.Frag) (mg : Str → Option Value) : Prop where
  f_isinstance : mg "isinstance" = none
  f_str : mg "str" = none
  f_len : mg "len" = none
  f_range : mg "range" = none
  f_tuple : mg "tuple" = none
  f_int : mg "int" = none
  f_list : mg "list" = none
  f_bool : mg "bool" = none
  f_ValueError : mg "ValueError" = none
  f_abs : mg "abs" = none
  v_LETTERS : ∃ u, mg "_LETTERS" = some u ∧ RelV (.str "abcdefghijklmnopqrstuvwxyz") u
  v_NAME_SIGNS : ∃ u, mg "_NAME_SIGNS" = some u ∧ RelV (.str "abcdefghijklmnopqrstuvwxyz0123456789_") u
  v_NAME_LENGTH : ∃ u, mg "_NAME_LENGTH" = some u ∧ RelV (.int 16) u
  v_RESERVED : ∃ u, mg "_RESERVED" = some u ∧ RelV (.ref (He.ga K "_RESERVED")) u
  v_MAX_LINES : ∃ u, mg "MAX_LINES" = some u ∧ RelV (.int 400) u
  v_MAX_WIDTH : ∃ u, mg "MAX_WIDTH" = some u ∧ RelV (.int 2000) u
  v_SIGNS : ∃ u, mg "SIGNS" = some u ∧ RelV (.ref (He.ga K "SIGNS")) u
  v_HallError : ∃ u, mg "HallError" = some u ∧ RelV (.ref (He.ga K "HallError")) u
  g_HallError : mg "HallError" = some (.ref (He.ga K "HallError"))
  v_InvalidText : ∃ u, mg "InvalidText" = some u ∧ RelV (.ref (He.ga K "InvalidText")) u
  g_InvalidText : mg "InvalidText" = some (.ref (He.ga K "InvalidText"))
  v_TooLarge : ∃ u, mg "TooLarge" = some u ∧ RelV (.ref (He.ga K "TooLarge")) u
  g_TooLarge : mg "TooLarge" = some (.ref (He.ga K "TooLarge"))
  v_BadBook : ∃ u, mg "BadBook" = some u ∧ RelV (.ref (He.ga K "BadBook")) u
  g_BadBook : mg "BadBook" = some (.ref (He.ga K "BadBook"))
  v_UnknownBook : ∃ u, mg "UnknownBook" = some u ∧ RelV (.ref (He.ga K "UnknownBook")) u
  g_UnknownBook : mg "UnknownBook" = some (.ref (He.ga K "UnknownBook"))
  v_BadSave : ∃ u, mg "BadSave" = some u ∧ RelV (.ref (He.ga K "BadSave")) u
  g_BadSave : mg "BadSave" = some (.ref (He.ga K "BadSave"))
  v_BookLines : ∃ u, mg "BookLines" = some u ∧ RelV (.ref (He.ga K "BookLines")) u
  g_BookLines : mg "BookLines" = some (.ref (He.ga K "BookLines"))
  k_BookLines : Cls K (He.ga K "BookLines")
  a_BookLines_lines : NoAttr K (He.ga K "BookLines") "_lines"
  a_BookLines_place : NoAttr K (He.ga K "BookLines") "_place"
  mk_BookLines : Mk K (He.ga K "BookLines") (He.ma K (He.ga K "BookLines") "__init__")
  m_BookLines_following : Meth K (He.ga K "BookLines") "following" (He.ma K (He.ga K "BookLines") "following")
  m_BookLines_beyond : Meth K (He.ga K "BookLines") "beyond" (He.ma K (He.ga K "BookLines") "beyond")
  x_BadBook_BadBook : PySem.W.exmOne K (.ref (He.ga K "BadBook")) (.ref (He.ga K "BadBook")) = some true
  d_SIGNS : HallHt.TxtD K w (He.ga K "SIGNS") td_SIGNS
  t_RESERVED : ∀ H, SqT K H (He.ga K "_RESERVED") (tb_RESERVED.map (He.Dv.v K))
  h_BadBook : PySem.HallX.HallTxt PySem.Challenge.pw_lemmahall_k36_whole_book_texts K mg "BadBook" (HallHt.cAd K "BadBook") (HallHt.iAd K "BadBook") (HallHt.cellAd K "BadBook") (HallHt.codeAd K "BadBook") h_BadBook.qual h_BadBook.params h_BadBook.body h_BadBook.scope
  e_BadBook : ExcC K (HallHt.cAd K "BadBook")
  n_BadBook : PySem.W.findIn K (.ref (HallHt.cAd K "BadBook")) "line" = some none
  k_BadBook_HallError : PySem.W.kitOne K (.ref (He.ga K "BadBook")) (.ref (He.ga K "HallError")) = some true
  k_BadBook_BadSave : PySem.W.kitOne K (.ref (He.ga K "BadBook")) (.ref (He.ga K "BadSave")) = some false
  k_BadBook_InvalidText : PySem.W.kitOne K (.ref (He.ga K "BadBook")) (.ref (He.ga K "InvalidText")) = some false
  k_BadBook_TooLarge : PySem.W.kitOne K (.ref (He.ga K "BadBook")) (.ref (He.ga K "TooLarge")) = some false
  k_BadBook_UnknownBook : PySem.W.kitOne K (.ref (He.ga K "BadBook")) (.ref (He.ga K "UnknownBook")) = some false
  k_BadBook_ValueError : PySem.W.kitOne K (.ref (He.ga K "BadBook")) (.type "ValueError") = some true
theorem exl_at {K : PySem.W.Frag} (h : ex K = true) (i : Nat) {b : Bool} (e : (exl K)[i]? = some b) : b = true := by
  have z := List.all_eq_true.mp h b (List.mem_of_getElem? e)
  exact z
theorem txt_of {w : World} {K : PySem.W.Frag} {h : Heap} {mg : Str → Option Value} (X : K.In h) (G : h.Ns mainGlobals mg) (c : HallHt.SaysH fa fn hs ex ts w K) : Txt w K mg where
  f_isinstance := He.free_ok X G (c.d.fact 31 (f := .free "isinstance") rfl)
  f_str := He.free_ok X G (c.d.fact 32 (f := .free "str") rfl)
  f_len := He.free_ok X G (c.d.fact 33 (f := .free "len") rfl)
  f_range := He.free_ok X G (c.d.fact 34 (f := .free "range") rfl)
  f_tuple := He.free_ok X G (c.d.fact 35 (f := .free "tuple") rfl)
  f_int := He.free_ok X G (c.d.fact 36 (f := .free "int") rfl)
  f_list := He.free_ok X G (c.d.fact 37 (f := .free "list") rfl)
  f_bool := He.free_ok X G (c.d.fact 38 (f := .free "bool") rfl)
  f_ValueError := He.free_ok X G (c.d.fact 39 (f := .free "ValueError") rfl)
  f_abs := He.free_ok X G (c.d.fact 40 (f := .free "abs") rfl)
  v_LETTERS := by obtain ⟨t, e⟩ := He.str_ok X G (c.d.fact 41 (f := .str "_LETTERS" "abcdefghijklmnopqrstuvwxyz") rfl); exact ⟨_, e, ⟨t, rfl⟩⟩
  v_NAME_SIGNS := by obtain ⟨t, e⟩ := He.str_ok X G (c.d.fact 42 (f := .str "_NAME_SIGNS" "abcdefghijklmnopqrstuvwxyz0123456789_") rfl); exact ⟨_, e, ⟨t, rfl⟩⟩
  v_NAME_LENGTH := by obtain ⟨t, e⟩ := He.int_ok X G (c.d.fact 43 (f := .int "_NAME_LENGTH" 16) rfl); exact ⟨_, e, ⟨t, rfl⟩⟩
  v_RESERVED := ⟨_, He.glo_ok X G (c.d.fact 44 (f := .glo "_RESERVED") rfl), rfl⟩
  v_MAX_LINES := by obtain ⟨t, e⟩ := He.int_ok X G (c.d.fact 45 (f := .int "MAX_LINES" 400) rfl); exact ⟨_, e, ⟨t, rfl⟩⟩
  v_MAX_WIDTH := by obtain ⟨t, e⟩ := He.int_ok X G (c.d.fact 46 (f := .int "MAX_WIDTH" 2000) rfl); exact ⟨_, e, ⟨t, rfl⟩⟩
  v_SIGNS := ⟨_, He.glo_ok X G (c.d.fact 47 (f := .glo "SIGNS") rfl), rfl⟩
  v_HallError := ⟨_, He.glo_ok X G (c.d.fact 48 (f := .glo "HallError") rfl), rfl⟩
  g_HallError := He.glo_ok X G (c.d.fact 48 (f := .glo "HallError") rfl)
  v_InvalidText := ⟨_, He.glo_ok X G (c.d.fact 49 (f := .glo "InvalidText") rfl), rfl⟩
  g_InvalidText := He.glo_ok X G (c.d.fact 49 (f := .glo "InvalidText") rfl)
  v_TooLarge := ⟨_, He.glo_ok X G (c.d.fact 50 (f := .glo "TooLarge") rfl), rfl⟩
  g_TooLarge := He.glo_ok X G (c.d.fact 50 (f := .glo "TooLarge") rfl)
  v_BadBook := ⟨_, He.glo_ok X G (c.d.fact 51 (f := .glo "BadBook") rfl), rfl⟩
  g_BadBook := He.glo_ok X G (c.d.fact 51 (f := .glo "BadBook") rfl)
  v_UnknownBook := ⟨_, He.glo_ok X G (c.d.fact 52 (f := .glo "UnknownBook") rfl), rfl⟩
  g_UnknownBook := He.glo_ok X G (c.d.fact 52 (f := .glo "UnknownBook") rfl)
  v_BadSave := ⟨_, He.glo_ok X G (c.d.fact 53 (f := .glo "BadSave") rfl), rfl⟩
  g_BadSave := He.glo_ok X G (c.d.fact 53 (f := .glo "BadSave") rfl)
  v_BookLines := ⟨_, He.glo_ok X G (c.d.fact 54 (f := .glo "BookLines") rfl), rfl⟩
  g_BookLines := He.glo_ok X G (c.d.fact 54 (f := .glo "BookLines") rfl)
  k_BookLines := He.cls_ok (c.d.fact 55 (f := .cls "BookLines") rfl)
  a_BookLines_lines := He.noat_ok (c.d.fact 56 (f := .noat "BookLines" "_lines") rfl)
  a_BookLines_place := He.noat_ok (c.d.fact 57 (f := .noat "BookLines" "_place") rfl)
  mk_BookLines := He.mkr_ok (c.d.fact 58 (f := .mkr "BookLines") rfl)
  m_BookLines_following := He.meth_ok (c.d.fact 59 (f := .meth "BookLines" "following") rfl)
  m_BookLines_beyond := He.meth_ok (c.d.fact 60 (f := .meth "BookLines" "beyond") rfl)
  x_BadBook_BadBook := He.exm_ok (c.d.fact 61 (f := .exm "BadBook" "BadBook" true) rfl)
  d_SIGNS := HallHt.txtD_of (c.tab 0 rfl) (exl_at c.more 0 rfl)
  t_RESERVED := fun H => He.tupB_ok (exl_at c.more 1 rfl) H
  h_BadBook := (HallHt.hall_of (prog := PySem.Challenge.pw_lemmahall_k36_whole_book_texts) (d := h_BadBook) X G (c.hall 0 rfl) (exl_at c.more 2 rfl) (by decide +kernel)).1
  e_BadBook := (HallHt.hall_of (prog := PySem.Challenge.pw_lemmahall_k36_whole_book_texts) (d := h_BadBook) X G (c.hall 0 rfl) (exl_at c.more 2 rfl) (by decide +kernel)).2
  n_BadBook := HallHt.noFld_ok (d := h_BadBook) (exl_at c.more 3 rfl)
  k_BadBook_HallError := of_decide_eq_true (exl_at c.more 4 rfl)
  k_BadBook_BadSave := of_decide_eq_true (exl_at c.more 5 rfl)
  k_BadBook_InvalidText := of_decide_eq_true (exl_at c.more 6 rfl)
  k_BadBook_TooLarge := of_decide_eq_true (exl_at c.more 7 rfl)
  k_BadBook_UnknownBook := of_decide_eq_true (exl_at c.more 8 rfl)
  k_BadBook_ValueError := of_decide_eq_true (exl_at c.more 9 rfl)
abbrev Fn_is_name (K : PySem.W.Frag) (fd : FuncData) : Prop := FunD K "is_name" "is_name" (defArgs s_is_name) (defBody s_is_name) (defScope s_is_name) [] [] (He.ga K "is_name") fd
abbrev Fn_words (K : PySem.W.Frag) (fd : FuncData) : Prop := FunD K "_words" "_words" (defArgs s_words) (defBody s_words) (defScope s_words) [] [] (He.ga K "_words") fd
abbrev Fn_rest (K : PySem.W.Frag) (fd : FuncData) : Prop := FunD K "_rest" "_rest" (defArgs s_rest) (defBody s_rest) (defScope s_rest) [] [] (He.ga K "_rest") fd
abbrev Fn_read_title (K : PySem.W.Frag) (fd : FuncData) : Prop := FunD K "_read_title" "_read_title" (defArgs s_read_title) (defBody s_read_title) (defScope s_read_title) [] [] (He.ga K "_read_title") fd
abbrev Fn_read_leans (K : PySem.W.Frag) (fd : FuncData) : Prop := FunD K "_read_leans" "_read_leans" (defArgs s_read_leans) (defBody s_read_leans) (defScope s_read_leans) [] [] (He.ga K "_read_leans") fd
abbrev Fn_read_script (K : PySem.W.Frag) (fd : FuncData) : Prop := FunD K "_read_script" "_read_script" (defArgs s_read_script) (defBody s_read_script) (defScope s_read_script) [] [] (He.ga K "_read_script") fd
abbrev Fn_read_item (K : PySem.W.Frag) (fd : FuncData) : Prop := FunD K "_read_item" "_read_item" (defArgs s_read_item) (defBody s_read_item) (defScope s_read_item) [] [] (He.ga K "_read_item") fd
abbrev Fn_parse_book (K : PySem.W.Frag) (fd : FuncData) : Prop := FunD K "parse_book" "parse_book" (defArgs s_parse_book) (defBody s_parse_book) (defScope s_parse_book) [] [] (He.ga K "parse_book") fd
abbrev Fn_law_purse (K : PySem.W.Frag) (fd : FuncData) : Prop := FunD K "_law_purse" "_law_purse" (defArgs s_law_purse) (defBody s_law_purse) (defScope s_law_purse) [] [] (He.ga K "_law_purse") fd
abbrev Fn_law_mixed (K : PySem.W.Frag) (fd : FuncData) : Prop := FunD K "_law_mixed" "_law_mixed" (defArgs s_law_mixed) (defBody s_law_mixed) (defScope s_law_mixed) [] [] (He.ga K "_law_mixed") fd
abbrev Fn_law_take (K : PySem.W.Frag) (fd : FuncData) : Prop := FunD K "_law_take" "_law_take" (defArgs s_law_take) (defBody s_law_take) (defScope s_law_take) [] [] (He.ga K "_law_take") fd
abbrev Fn_law_is_name (K : PySem.W.Frag) (fd : FuncData) : Prop := FunD K "_law_is_name" "_law_is_name" (defArgs s_law_is_name) (defBody s_law_is_name) (defScope s_law_is_name) [] [] (He.ga K "_law_is_name") fd
abbrev Fn_law_name (K : PySem.W.Frag) (fd : FuncData) : Prop := FunD K "_law_name" "_law_name" (defArgs s_law_name) (defBody s_law_name) (defScope s_law_name) [] [] (He.ga K "_law_name") fd
abbrev Fn_law_odd_word (K : PySem.W.Frag) (fd : FuncData) : Prop := FunD K "_law_odd_word" "_law_odd_word" (defArgs s_law_odd_word) (defBody s_law_odd_word) (defScope s_law_odd_word) [] [] (He.ga K "_law_odd_word") fd
abbrev Fn_law_row (K : PySem.W.Frag) (fd : FuncData) : Prop := FunD K "_law_row" "_law_row" (defArgs s_law_row) (defBody s_law_row) (defScope s_law_row) [] [] (He.ga K "_law_row") fd
abbrev Fn_law_text_of (K : PySem.W.Frag) (fd : FuncData) : Prop := FunD K "_law_text_of" "_law_text_of" (defArgs s_law_text_of) (defBody s_law_text_of) (defScope s_law_text_of) [] [] (He.ga K "_law_text_of") fd
abbrev Fn_law_rest_of (K : PySem.W.Frag) (fd : FuncData) : Prop := FunD K "_law_rest_of" "_law_rest_of" (defArgs s_law_rest_of) (defBody s_law_rest_of) (defScope s_law_rest_of) [] [] (He.ga K "_law_rest_of") fd
abbrev Fn_law_remarks (K : PySem.W.Frag) (fd : FuncData) : Prop := FunD K "_law_remarks" "_law_remarks" (defArgs s_law_remarks) (defBody s_law_remarks) (defScope s_law_remarks) [] [] (He.ga K "_law_remarks") fd
abbrev Fn_law_body (K : PySem.W.Frag) (fd : FuncData) : Prop := FunD K "_law_body" "_law_body" (defArgs s_law_body) (defBody s_law_body) (defScope s_law_body) [] [] (He.ga K "_law_body") fd
abbrev Fn_law_tactic (K : PySem.W.Frag) (fd : FuncData) : Prop := FunD K "_law_tactic" "_law_tactic" (defArgs s_law_tactic) (defBody s_law_tactic) (defScope s_law_tactic) [] [] (He.ga K "_law_tactic") fd
abbrev Fn_law_item_rows (K : PySem.W.Frag) (fd : FuncData) : Prop := FunD K "_law_item_rows" "_law_item_rows" (defArgs s_law_item_rows) (defBody s_law_item_rows) (defScope s_law_item_rows) [] [] (He.ga K "_law_item_rows") fd
abbrev Fn_law_build (K : PySem.W.Frag) (fd : FuncData) : Prop := FunD K "_law_build" "_law_build" (defArgs s_law_build) (defBody s_law_build) (defScope s_law_build) [] [] (He.ga K "_law_build") fd
abbrev Fn_law_other_words (K : PySem.W.Frag) (fd : FuncData) : Prop := FunD K "_law_other_words" "_law_other_words" (defArgs s_law_other_words) (defBody s_law_other_words) (defScope s_law_other_words) [] [] (He.ga K "_law_other_words") fd
abbrev Fn_law_edit (K : PySem.W.Frag) (fd : FuncData) : Prop := FunD K "_law_edit" "_law_edit" (defArgs s_law_edit) (defBody s_law_edit) (defScope s_law_edit) [] [] (He.ga K "_law_edit") fd
abbrev Fn_law_stretched (K : PySem.W.Frag) (fd : FuncData) : Prop := FunD K "_law_stretched" "_law_stretched" (defArgs s_law_stretched) (defBody s_law_stretched) (defScope s_law_stretched) [] [] (He.ga K "_law_stretched") fd
abbrev Fn_law_item (K : PySem.W.Frag) (fd : FuncData) : Prop := FunD K "_law_item" "_law_item" (defArgs s_law_item) (defBody s_law_item) (defScope s_law_item) [] [] (He.ga K "_law_item") fd
abbrev Fn_law_leans_fit (K : PySem.W.Frag) (fd : FuncData) : Prop := FunD K "_law_leans_fit" "_law_leans_fit" (defArgs s_law_leans_fit) (defBody s_law_leans_fit) (defScope s_law_leans_fit) [] [] (He.ga K "_law_leans_fit") fd
abbrev Fn_law_judge (K : PySem.W.Frag) (fd : FuncData) : Prop := FunD K "_law_judge" "_law_judge" (defArgs s_law_judge) (defBody s_law_judge) (defScope s_law_judge) [] [] (He.ga K "_law_judge") fd
abbrev Fn_law_same (K : PySem.W.Frag) (fd : FuncData) : Prop := FunD K "_law_same" "_law_same" (defArgs s_law_same) (defBody s_law_same) (defScope s_law_same) [] [] (He.ga K "_law_same") fd
abbrev Fn_law_right (K : PySem.W.Frag) (fd : FuncData) : Prop := FunD K "_law_right" "_law_right" (defArgs s_law_right) (defBody s_law_right) (defScope s_law_right) [] [] (He.ga K "_law_right") fd
abbrev Fn_law (K : PySem.W.Frag) (fd : FuncData) : Prop := FunD K "law" "law" (defArgs s_law) (defBody s_law) (defScope s_law) [] [] (He.ga K "law") fd
abbrev Fn_BookLines_init (K : PySem.W.Frag) (fd : FuncData) : Prop := FunD K "__init__" "BookLines.__init__" (defArgs s_BookLines_init) (defBody s_BookLines_init) (defScope s_BookLines_init) [] [] (He.ma K (He.ga K "BookLines") "__init__") fd
abbrev Fn_BookLines_following (K : PySem.W.Frag) (fd : FuncData) : Prop := FunD K "following" "BookLines.following" (defArgs s_BookLines_following) (defBody s_BookLines_following) (defScope s_BookLines_following) [] [] (He.ma K (He.ga K "BookLines") "following") fd
abbrev Fn_BookLines_beyond (K : PySem.W.Frag) (fd : FuncData) : Prop := FunD K "beyond" "BookLines.beyond" (defArgs s_BookLines_beyond) (defBody s_BookLines_beyond) (defScope s_BookLines_beyond) [] [] (He.ma K (He.ga K "BookLines") "beyond") fd
theorem sc_is_name : FnScope ["word", "sign"] ["word"] (defScope s_is_name) := ⟨rfl, rfl, rfl, by decide +kernel, rfl, by decide +kernel, by decide +kernel⟩
theorem b_is_name {K : PySem.W.Frag} {fd : FuncData} (F : Fn_is_name K fd) : Binds K fd ["word"] [] := F.bindsN fun _ _ _ _ _ _ us hl => match us, hl with | [_], _ => rfl
theorem sc_words : FnScope ["line", "word"] ["line"] (defScope s_words) := ⟨rfl, rfl, rfl, by decide +kernel, rfl, by decide +kernel, by decide +kernel⟩
theorem b_words {K : PySem.W.Frag} {fd : FuncData} (F : Fn_words K fd) : Binds K fd ["line"] [] := F.bindsN fun _ _ _ _ _ _ us hl => match us, hl with | [_], _ => rfl
theorem sc_rest : FnScope ["line", "count", "rest", "_"] ["line", "count"] (defScope s_rest) := ⟨rfl, rfl, rfl, by decide +kernel, rfl, by decide +kernel, by decide +kernel⟩
theorem b_rest {K : PySem.W.Frag} {fd : FuncData} (F : Fn_rest K fd) : Binds K fd ["line", "count"] [] := F.bindsN fun _ _ _ _ _ _ us hl => match us, hl with | [_, _], _ => rfl
theorem sc_read_title : FnScope ["lines", "found", "number", "line", "words"] ["lines"] (defScope s_read_title) := ⟨rfl, rfl, rfl, by decide +kernel, rfl, by decide +kernel, by decide +kernel⟩
theorem b_read_title {K : PySem.W.Frag} {fd : FuncData} (F : Fn_read_title K fd) : Binds K fd ["lines"] [] := F.bindsN fun _ _ _ _ _ _ us hl => match us, hl with | [_], _ => rfl
theorem sc_read_leans : FnScope ["found", "own", "number", "line", "names", "name"] ["found", "own"] (defScope s_read_leans) := ⟨rfl, rfl, rfl, by decide +kernel, rfl, by decide +kernel, by decide +kernel⟩
theorem b_read_leans {K : PySem.W.Frag} {fd : FuncData} (F : Fn_read_leans K fd) : Binds K fd ["found", "own"] [] := F.bindsN fun _ _ _ _ _ _ us hl => match us, hl with | [_, _], _ => rfl
theorem sc_read_script : FnScope ["lines", "script", "found"] ["lines"] (defScope s_read_script) := ⟨rfl, rfl, rfl, by decide +kernel, rfl, by decide +kernel, by decide +kernel⟩
theorem b_read_script {K : PySem.W.Frag} {fd : FuncData} (F : Fn_read_script K fd) : Binds K fd ["lines"] [] := F.bindsN fun _ _ _ _ _ _ us hl => match us, hl with | [_], _ => rfl
theorem sc_read_item : FnScope ["lines", "found", "number", "line", "words", "word", "body", "script", "end"] ["lines", "found"] (defScope s_read_item) := ⟨rfl, rfl, rfl, by decide +kernel, rfl, by decide +kernel, by decide +kernel⟩
theorem b_read_item {K : PySem.W.Frag} {fd : FuncData} (F : Fn_read_item K fd) : Binds K fd ["lines", "found"] [] := F.bindsN fun _ _ _ _ _ _ us hl => match us, hl with | [_, _], _ => rfl
theorem sc_parse_book : FnScope ["text", "lines", "name", "leans", "items", "found"] ["text"] (defScope s_parse_book) := ⟨rfl, rfl, rfl, by decide +kernel, rfl, by decide +kernel, by decide +kernel⟩
theorem b_parse_book {K : PySem.W.Frag} {fd : FuncData} (F : Fn_parse_book K fd) : Binds K fd ["text"] [] := F.bindsN fun _ _ _ _ _ _ us hl => match us, hl with | [_], _ => rfl
theorem sc_law_purse : FnScope ["script", "cell", "cells", "seed"] ["script"] (defScope s_law_purse) := ⟨rfl, rfl, rfl, by decide +kernel, rfl, by decide +kernel, by decide +kernel⟩
theorem b_law_purse {K : PySem.W.Frag} {fd : FuncData} (F : Fn_law_purse K fd) : Binds K fd ["script"] [] := F.bindsN fun _ _ _ _ _ _ us hl => match us, hl with | [_], _ => rfl
theorem sc_law_mixed : FnScope ["seed", "count", "size", "first", "second"] ["seed", "count", "size"] (defScope s_law_mixed) := ⟨rfl, rfl, rfl, by decide +kernel, rfl, by decide +kernel, by decide +kernel⟩
theorem b_law_mixed {K : PySem.W.Frag} {fd : FuncData} (F : Fn_law_mixed K fd) : Binds K fd ["seed", "count", "size"] [] := F.bindsN fun _ _ _ _ _ _ us hl => match us, hl with | [_, _, _], _ => rfl
theorem sc_law_take : FnScope ["purse", "size", "cell", "digit"] ["purse", "size"] (defScope s_law_take) := ⟨rfl, rfl, rfl, by decide +kernel, rfl, by decide +kernel, by decide +kernel⟩
theorem b_law_take {K : PySem.W.Frag} {fd : FuncData} (F : Fn_law_take K fd) : Binds K fd ["purse", "size"] [] := F.bindsN fun _ _ _ _ _ _ us hl => match us, hl with | [_, _], _ => rfl
theorem sc_law_is_name : FnScope ["word", "k", "is_letter"] ["word"] (defScope s_law_is_name) := ⟨rfl, rfl, rfl, by decide +kernel, rfl, by decide +kernel, by decide +kernel⟩
theorem b_law_is_name {K : PySem.W.Frag} {fd : FuncData} (F : Fn_law_is_name K fd) : Binds K fd ["word"] [] := F.bindsN fun _ _ _ _ _ _ us hl => match us, hl with | [_], _ => rfl
theorem sc_law_name : FnScope ["purse", "choice", "menu", "size", "signs", "fill", "place", "sign"] ["purse"] (defScope s_law_name) := ⟨rfl, rfl, rfl, by decide +kernel, rfl, by decide +kernel, by decide +kernel⟩
theorem b_law_name {K : PySem.W.Frag} {fd : FuncData} (F : Fn_law_name K fd) : Binds K fd ["purse"] [] := F.bindsN fun _ _ _ _ _ _ us hl => match us, hl with | [_], _ => rfl
theorem sc_law_odd_word : FnScope ["purse", "menu"] ["purse"] (defScope s_law_odd_word) := ⟨rfl, rfl, rfl, by decide +kernel, rfl, by decide +kernel, by decide +kernel⟩
theorem b_law_odd_word {K : PySem.W.Frag} {fd : FuncData} (F : Fn_law_odd_word K fd) : Binds K fd ["purse"] [] := F.bindsN fun _ _ _ _ _ _ us hl => match us, hl with | [_], _ => rfl
theorem sc_law_row : FnScope ["purse", "words", "word", "pads"] ["purse", "words"] (defScope s_law_row) := ⟨rfl, rfl, rfl, by decide +kernel, rfl, by decide +kernel, by decide +kernel⟩
theorem b_law_row {K : PySem.W.Frag} {fd : FuncData} (F : Fn_law_row K fd) : Binds K fd ["purse", "words"] [] := F.bindsN fun _ _ _ _ _ _ us hl => match us, hl with | [_, _], _ => rfl
theorem sc_law_text_of : FnScope ["row", "told", "k"] ["row"] (defScope s_law_text_of) := ⟨rfl, rfl, rfl, by decide +kernel, rfl, by decide +kernel, by decide +kernel⟩
theorem b_law_text_of {K : PySem.W.Frag} {fd : FuncData} (F : Fn_law_text_of K fd) : Binds K fd ["row"] [] := F.bindsN fun _ _ _ _ _ _ us hl => match us, hl with | [_], _ => rfl
theorem sc_law_rest_of : FnScope ["row", "first", "told", "k"] ["row", "first"] (defScope s_law_rest_of) := ⟨rfl, rfl, rfl, by decide +kernel, rfl, by decide +kernel, by decide +kernel⟩
theorem b_law_rest_of {K : PySem.W.Frag} {fd : FuncData} (F : Fn_law_rest_of K fd) : Binds K fd ["row", "first"] [] := F.bindsN fun _ _ _ _ _ _ us hl => match us, hl with | [_, _], _ => rfl
theorem sc_law_remarks : FnScope ["purse", "menu", "rows", "k"] ["purse"] (defScope s_law_remarks) := ⟨rfl, rfl, rfl, by decide +kernel, rfl, by decide +kernel, by decide +kernel⟩
theorem b_law_remarks {K : PySem.W.Frag} {fd : FuncData} (F : Fn_law_remarks K fd) : Binds K fd ["purse"] [] := F.bindsN fun _ _ _ _ _ _ us hl => match us, hl with | [_], _ => rfl
theorem sc_law_body : FnScope ["purse", "menu", "words", "k"] ["purse"] (defScope s_law_body) := ⟨rfl, rfl, rfl, by decide +kernel, rfl, by decide +kernel, by decide +kernel⟩
theorem b_law_body {K : PySem.W.Frag} {fd : FuncData} (F : Fn_law_body K fd) : Binds K fd ["purse"] [] := F.bindsN fun _ _ _ _ _ _ us hl => match us, hl with | [_], _ => rfl
theorem sc_law_tactic : FnScope ["purse", "menu"] ["purse"] (defScope s_law_tactic) := ⟨rfl, rfl, rfl, by decide +kernel, rfl, by decide +kernel, by decide +kernel⟩
theorem b_law_tactic {K : PySem.W.Frag} {fd : FuncData} (F : Fn_law_tactic K fd) : Binds K fd ["purse"] [] := F.bindsN fun _ _ _ _ _ _ us hl => match us, hl with | [_], _ => rfl
theorem sc_law_item_rows : FnScope ["purse", "menu", "sort", "words", "sign", "rows", "k"] ["purse"] (defScope s_law_item_rows) := ⟨rfl, rfl, rfl, by decide +kernel, rfl, by decide +kernel, by decide +kernel⟩
theorem b_law_item_rows {K : PySem.W.Frag} {fd : FuncData} (F : Fn_law_item_rows K fd) : Binds K fd ["purse"] [] := F.bindsN fun _ _ _ _ _ _ us hl => match us, hl with | [_], _ => rfl
theorem sc_law_build : FnScope ["purse", "own", "page", "words", "k"] ["purse"] (defScope s_law_build) := ⟨rfl, rfl, rfl, by decide +kernel, rfl, by decide +kernel, by decide +kernel⟩
theorem b_law_build {K : PySem.W.Frag} {fd : FuncData} (F : Fn_law_build K fd) : Binds K fd ["purse"] [] := F.bindsN fun _ _ _ _ _ _ us hl => match us, hl with | [_], _ => rfl
theorem sc_law_other_words : FnScope ["purse", "name", "odd", "menu"] ["purse"] (defScope s_law_other_words) := ⟨rfl, rfl, rfl, by decide +kernel, rfl, by decide +kernel, by decide +kernel⟩
theorem b_law_other_words {K : PySem.W.Frag} {fd : FuncData} (F : Fn_law_other_words K fd) : Binds K fd ["purse"] [] := F.bindsN fun _ _ _ _ _ _ us hl => match us, hl with | [_], _ => rfl
theorem sc_law_edit : FnScope ["purse", "page", "way", "at", "words", "place", "word"] ["purse", "page"] (defScope s_law_edit) := ⟨rfl, rfl, rfl, by decide +kernel, rfl, by decide +kernel, by decide +kernel⟩
theorem b_law_edit {K : PySem.W.Frag} {fd : FuncData} (F : Fn_law_edit K fd) : Binds K fd ["purse", "page"] [] := F.bindsN fun _ _ _ _ _ _ us hl => match us, hl with | [_, _], _ => rfl
theorem sc_law_stretched : FnScope ["purse", "row", "size", "words", "pads", "bare", "word"] ["purse", "row"] (defScope s_law_stretched) := ⟨rfl, rfl, rfl, by decide +kernel, rfl, by decide +kernel, by decide +kernel⟩
theorem b_law_stretched {K : PySem.W.Frag} {fd : FuncData} (F : Fn_law_stretched K fd) : Binds K fd ["purse", "row"] [] := F.bindsN fun _ _ _ _ _ _ us hl => match us, hl with | [_, _], _ => rfl
theorem sc_law_item : FnScope ["words", "row", "number", "signs"] ["words", "row", "number"] (defScope s_law_item) := ⟨rfl, rfl, rfl, by decide +kernel, rfl, by decide +kernel, by decide +kernel⟩
theorem b_law_item {K : PySem.W.Frag} {fd : FuncData} (F : Fn_law_item K fd) : Binds K fd ["words", "row", "number"] [] := F.bindsN fun _ _ _ _ _ _ us hl => match us, hl with | [_, _, _], _ => rfl
theorem sc_law_leans_fit : FnScope ["words", "own", "k"] ["words", "own"] (defScope s_law_leans_fit) := ⟨rfl, rfl, rfl, by decide +kernel, rfl, by decide +kernel, by decide +kernel⟩
theorem b_law_leans_fit {K : PySem.W.Frag} {fd : FuncData} (F : Fn_law_leans_fit K fd) : Binds K fd ["words", "own"] [] := F.bindsN fun _ _ _ _ _ _ us hl => match us, hl with | [_, _], _ => rfl
theorem sc_law_judge : FnScope ["page", "own", "leans", "items", "state", "k", "words", "item"] ["page"] (defScope s_law_judge) := ⟨rfl, rfl, rfl, by decide +kernel, rfl, by decide +kernel, by decide +kernel⟩
theorem b_law_judge {K : PySem.W.Frag} {fd : FuncData} (F : Fn_law_judge K fd) : Binds K fd ["page"] [] := F.bindsN fun _ _ _ _ _ _ us hl => match us, hl with | [_], _ => rfl
theorem sc_law_same : FnScope ["told", "due", "k"] ["told", "due"] (defScope s_law_same) := ⟨rfl, rfl, rfl, by decide +kernel, rfl, by decide +kernel, by decide +kernel⟩
theorem b_law_same {K : PySem.W.Frag} {fd : FuncData} (F : Fn_law_same K fd) : Binds K fd ["told", "due"] [] := F.bindsN fun _ _ _ _ _ _ us hl => match us, hl with | [_, _], _ => rfl
theorem sc_law_right : FnScope ["told", "due"] ["told", "due"] (defScope s_law_right) := ⟨rfl, rfl, rfl, by decide +kernel, rfl, by decide +kernel, by decide +kernel⟩
theorem b_law_right {K : PySem.W.Frag} {fd : FuncData} (F : Fn_law_right K fd) : Binds K fd ["told", "due"] [] := F.bindsN fun _ _ _ _ _ _ us hl => match us, hl with | [_, _], _ => rfl
theorem sc_law : FnScope ["script", "purse", "edits", "is_long", "is_wide", "page", "k", "size", "place", "words", "more", "at", "due", "told", "e", "word", "row"] ["script"] (defScope s_law) := ⟨rfl, rfl, rfl, by decide +kernel, rfl, by decide +kernel, by decide +kernel⟩
theorem b_law {K : PySem.W.Frag} {fd : FuncData} (F : Fn_law K fd) : Binds K fd ["script"] [] := F.bindsN fun _ _ _ _ _ _ us hl => match us, hl with | [_], _ => rfl
theorem sc_BookLines_init : FnScope ["self", "text"] ["self", "text"] (defScope s_BookLines_init) := ⟨rfl, rfl, rfl, by decide +kernel, rfl, by decide +kernel, by decide +kernel⟩
theorem b_BookLines_init {K : PySem.W.Frag} {fd : FuncData} (F : Fn_BookLines_init K fd) : Binds K fd ["self", "text"] [] := F.bindsN fun _ _ _ _ _ _ us hl => match us, hl with | [_, _], _ => rfl
theorem sc_BookLines_following : FnScope ["self", "line"] ["self"] (defScope s_BookLines_following) := ⟨rfl, rfl, rfl, by decide +kernel, rfl, by decide +kernel, by decide +kernel⟩
theorem b_BookLines_following {K : PySem.W.Frag} {fd : FuncData} (F : Fn_BookLines_following K fd) : Binds K fd ["self"] [] := F.bindsN fun _ _ _ _ _ _ us hl => match us, hl with | [_], _ => rfl
theorem sc_BookLines_beyond : FnScope ["self"] ["self"] (defScope s_BookLines_beyond) := ⟨rfl, rfl, rfl, by decide +kernel, rfl, by decide +kernel, by decide +kernel⟩
theorem b_BookLines_beyond {K : PySem.W.Frag} {fd : FuncData} (F : Fn_BookLines_beyond K fd) : Binds K fd ["self"] [] := F.bindsN fun _ _ _ _ _ _ us hl => match us, hl with | [_], _ => rfl
end K36
/-! The plain law: rows and their texts -/
namespace K36
open PySem L2 TL
abbrev Row : Type := List (List Nat) × List Nat
def rep (n : Nat) : List Nat := List.replicate n 32
def tx : List (List Nat) → List Nat → List Nat
  | [], _ => []
  | w :: r, p :: ps => w ++ (rep p ++ tx r ps)
  | w :: r, [] => w ++ tx r []
def bd : List (List Nat) → List Nat → List Nat
  | [], _ => []
  | [w], _ => w
  | w :: v :: r, p :: ps => w ++ (rep p ++ bd (v :: r) ps)
  | w :: v :: r, [] => w ++ bd (v :: r) []
def textOf (r : Row) : List Nat := rep (r.2.headD 0) ++ tx r.1 (r.2.drop 1)
def Gw (w : List Nat) : Prop := w ≠ [] ∧ ∀ c ∈ w, c ≠ 32 ∧ c ≠ 10 ∧ c < 256
def PadOk : List (List Nat) → List Nat → Prop
  | [], _ => True
  | [_], _ :: _ => True
  | _ :: v :: r, p :: ps => 1 ≤ p ∧ PadOk (v :: r) ps
  | _ :: _, [] => False
/-- words and pads that fit -/
def Good (r : Row) : Prop := (∀ w ∈ r.1, Gw w) ∧ PadOk r.1 (r.2.drop 1) ∧ r.2.length = r.1.length + 1
theorem rep_zero : rep 0 = [] := rfl
theorem rep_succ (n : Nat) : rep (n + 1) = 32 :: rep n := rfl
theorem tx_bd : ∀ (ws : List (List Nat)) (ps : List Nat), PadOk ws ps → ∃ b, tx ws ps = bd ws ps ++ rep b
  | [], _, _ => ⟨0, rfl⟩
  | [w], p :: ps, _ => ⟨p, by show w ++ (rep p ++ []) = w ++ rep p; rw [List.append_nil]⟩
  | w :: v :: r, p :: ps, h => by
    obtain ⟨b, e⟩ := tx_bd (v :: r) ps h.2
    refine ⟨b, ?_⟩
    show w ++ (rep p ++ tx (v :: r) ps) = (w ++ (rep p ++ bd (v :: r) ps)) ++ rep b
    rw [e]; simp [List.append_assoc]
  | [_], [], h => by cases h
  | _ :: _ :: _, [], h => by cases h
def wds (l : List Nat) : List (List Nat) := (spl [32] 0 [] l).filter (fun w => decide (w ≠ []))
theorem wds_nil : wds [] = [] := rfl
theorem wds_sp (l : List Nat) : wds (32 :: l) = wds l := by
  unfold wds
  have e := spl_part1 (s := 32) (S := []) (p := []) (rest := l) (acc := []) (by simp)
  have e' : spl [32] 0 [] (32 :: l) = [] :: spl [32] 0 [] l := e
  rw [e', List.filter_cons_of_neg (by simp)]
theorem wds_rep (n : Nat) (l : List Nat) : wds (rep n ++ l) = wds l := by
  induction n with
  | zero => rfl
  | succ n ih => rw [rep_succ, List.cons_append, wds_sp, ih]
theorem not32 {w : List Nat} (h : Gw w) : 32 ∉ w := fun z => (h.2 32 z).1 rfl
theorem wds_one {w : List Nat} (h : Gw w) : wds w = [w] := by
  unfold wds
  rw [spl_last1 (not32 h), List.nil_append, List.filter_cons_of_pos (by simpa using h.1)]; rfl
theorem wds_cons {w : List Nat} (h : Gw w) (l : List Nat) : wds (w ++ 32 :: l) = w :: wds l := by
  unfold wds
  have e := spl_part1 (s := 32) (S := []) (p := w) (rest := l) (acc := []) (not32 h)
  have e' : spl [32] 0 [] (w ++ 32 :: l) = w :: spl [32] 0 [] l := e
  rw [e', List.filter_cons_of_pos (by simpa using h.1)]
theorem wds_bd : ∀ (ws : List (List Nat)) (ps : List Nat), (∀ w ∈ ws, Gw w) → PadOk ws ps → wds (bd ws ps) = ws
  | [], _, _, _ => rfl
  | [w], _ :: _, h, _ => wds_one (h w List.mem_cons_self)
  | w :: v :: r, p :: ps, h, hp => by
    obtain ⟨q, rfl⟩ : ∃ q, p = q + 1 := ⟨p - 1, by have := hp.1; omega⟩
    show wds (w ++ (rep (q + 1) ++ bd (v :: r) ps)) = _
    rw [rep_succ, List.cons_append, wds_cons (h w List.mem_cons_self), wds_rep, wds_bd (v :: r) ps (fun w hw => h w (List.mem_cons_of_mem _ hw)) hp.2]
  | [_], [], _, h => by cases h
  | _ :: _ :: _, [], _, h => by cases h
theorem bd_head {w : List Nat} (h : Gw w) (r : List (List Nat)) (ps : List Nat) : ∃ c l, bd (w :: r) ps = c :: l ∧ w[0]? = some c ∧ c ≠ 32 := by
  obtain ⟨c, l, rfl⟩ : ∃ c l, w = c :: l := by
    cases w with
    | nil => exact absurd rfl h.1
    | cons c l => exact ⟨c, l, rfl⟩
  have hc := (h.2 c List.mem_cons_self).1
  cases r with
  | nil => exact ⟨c, l, rfl, rfl, hc⟩
  | cons v r =>
    cases ps with
    | nil => exact ⟨c, _, rfl, rfl, hc⟩
    | cons p ps => exact ⟨c, _, rfl, rfl, hc⟩
theorem bd_last : ∀ (ws : List (List Nat)) (ps : List Nat), ws ≠ [] → (∀ w ∈ ws, Gw w) → PadOk ws ps → ∃ l c, bd ws ps = l ++ [c] ∧ c ≠ 32
  | [], _, h, _, _ => absurd rfl h
  | [w], _ :: _, _, h, _ => by
    have hw := h w List.mem_cons_self
    refine ⟨w.dropLast, w.getLast hw.1, (List.dropLast_concat_getLast hw.1).symm, (hw.2 _ (List.getLast_mem hw.1)).1⟩
  | w :: v :: r, p :: ps, _, h, hp => by
    obtain ⟨l, c, e, hc⟩ := bd_last (v :: r) ps (by simp) (fun w hw => h w (List.mem_cons_of_mem _ hw)) hp.2
    refine ⟨w ++ (rep p ++ l), c, ?_, hc⟩
    show w ++ (rep p ++ bd (v :: r) ps) = _
    rw [e]; simp [List.append_assoc]
  | [_], [], _, _, h => by cases h
  | _ :: _ :: _, [], _, _, h => by cases h
theorem dw_rep (n : Nat) (l : List Nat) : (rep n ++ l).dropWhile (· == 32) = l.dropWhile (· == 32) := by
  induction n with
  | zero => rfl
  | succ n ih => rw [rep_succ, List.cons_append, List.dropWhile_cons_of_pos (by rfl), ih]
theorem rep_rev (n : Nat) : (rep n).reverse = rep n := List.reverse_replicate
theorem strp_mid (a b : Nat) (m : List Nat) (h1 : ∀ c, m[0]? = some c → c ≠ 32) (h2 : m ≠ [] → ∃ l c, m = l ++ [c] ∧ c ≠ 32) : strp (rep a ++ (m ++ rep b)) = m := by
  unfold strp
  rw [dw_rep]
  cases m with
  | nil =>
    have e := dw_rep b []
    rw [List.append_nil] at e
    rw [List.nil_append, e]; rfl
  | cons c l =>
    obtain ⟨l', c', e, hc'⟩ := h2 (by simp)
    have hc := h1 c rfl
    rw [List.cons_append, List.dropWhile_cons_of_neg (by simpa using hc), ← List.cons_append, List.reverse_append, rep_rev, dw_rep, e, List.reverse_append]
    show (List.dropWhile _ (c' :: l'.reverse)).reverse = _
    rw [List.dropWhile_cons_of_neg (by simpa using hc'), List.reverse_cons, List.reverse_reverse]
theorem strp_bd (a b : Nat) {ws : List (List Nat)} {ps : List Nat} (h : ∀ w ∈ ws, Gw w) (hp : PadOk ws ps) : strp (rep a ++ (bd ws ps ++ rep b)) = bd ws ps := by
  cases ws with
  | nil => exact strp_mid a b [] (fun c z => by cases z) (fun z => absurd rfl z)
  | cons w r =>
    obtain ⟨c, l, e, _, hc⟩ := bd_head (h w List.mem_cons_self) r ps
    refine strp_mid a b _ (fun d z => by rw [e] at z; cases z; exact hc) fun _ => ?_
    exact bd_last _ _ (by simp) h hp
theorem strp_bd0 (a : Nat) {ws : List (List Nat)} {ps : List Nat} (h : ∀ w ∈ ws, Gw w) (hp : PadOk ws ps) : strp (rep a ++ bd ws ps) = bd ws ps := by
  have := strp_bd a 0 h hp
  rwa [rep_zero, List.append_nil] at this
theorem strp_text {r : Row} (h : Good r) : strp (textOf r) = bd r.1 (r.2.drop 1) := by
  obtain ⟨b, e⟩ := tx_bd _ _ h.2.1
  unfold textOf
  rw [e]
  exact strp_bd _ _ h.1 h.2.1
theorem par_two {w v : List Nat} {r : List (List Nat)} {p : Nat} {ps : List Nat} (h : Gw w) (hp : 1 ≤ p) : par [32] [] (bd (w :: v :: r) (p :: ps)) = some (w, rep (p - 1) ++ bd (v :: r) ps) := by
  obtain ⟨q, rfl⟩ : ∃ q, p = q + 1 := ⟨p - 1, by omega⟩
  show par [32] [] (w ++ (rep (q + 1) ++ bd (v :: r) ps)) = _
  rw [rep_succ, List.cons_append]
  exact par_part1 (s := 32) (S := []) (not32 h)
theorem par_one {w : List Nat} (h : Gw w) : par [32] [] w = none := par_none1 (not32 h)
/-- what `partition(' ')[2].strip(' ')` makes -/
def rest1 (l : List Nat) : List Nat := match par [32] [] l with
  | some (_, b) => strp b
  | none => []
theorem rest1_bd {ws : List (List Nat)} {ps : List Nat} (h : ∀ w ∈ ws, Gw w) (hp : PadOk ws ps) : rest1 (bd ws ps) = bd (ws.drop 1) (ps.drop 1) ∧ PadOk (ws.drop 1) (ps.drop 1) := by
  match ws, ps, h, hp with
  | [], ps, _, _ => exact ⟨rfl, by simp [PadOk]⟩
  | [w], p :: ps, h, _ =>
    refine ⟨?_, by simp [PadOk]⟩
    unfold rest1
    rw [show bd [w] (p :: ps) = w from rfl, par_one (h w List.mem_cons_self)]; rfl
  | w :: v :: r, p :: ps, h, hp =>
    refine ⟨?_, hp.2⟩
    unfold rest1
    rw [par_two (h w List.mem_cons_self) hp.1]
    exact strp_bd0 _ (fun w hw => h w (List.mem_cons_of_mem _ hw)) hp.2
  | [_], [], _, h => cases h
  | _ :: _ :: _, [], _, h => cases h
theorem tx_no {c : Nat} (hc : c ≠ 32) : ∀ (ws : List (List Nat)) (ps : List Nat), (∀ w ∈ ws, c ∉ w) → c ∉ tx ws ps
  | [], _, _ => by simp [tx]
  | w :: r, p :: ps, h => by
    show c ∉ w ++ (rep p ++ tx r ps)
    have h1 := h w List.mem_cons_self
    have h2 := tx_no hc r ps fun w hw => h w (List.mem_cons_of_mem _ hw)
    simp only [List.mem_append, not_or]
    exact ⟨h1, fun z => hc (List.eq_of_mem_replicate z), h2⟩
  | w :: r, [], h => by
    show c ∉ w ++ tx r []
    have h1 := h w List.mem_cons_self
    have h2 := tx_no hc r [] fun w hw => h w (List.mem_cons_of_mem _ hw)
    simp only [List.mem_append, not_or]
    exact ⟨h1, h2⟩
theorem text_no10 {r : Row} (h : Good r) : 10 ∉ textOf r := by
  unfold textOf
  simp only [List.mem_append, not_or]
  exact ⟨fun z => absurd (List.eq_of_mem_replicate z) (by decide), tx_no (by decide) _ _ fun w hw z => ((h.1 w hw).2 10 z).2.1 rfl⟩
theorem bd_nil_iff {ws : List (List Nat)} {ps : List Nat} (h : ∀ w ∈ ws, Gw w) : bd ws ps = [] ↔ ws = [] := by
  cases ws with
  | nil => exact ⟨fun _ => rfl, fun _ => rfl⟩
  | cons w r =>
    obtain ⟨c, l, e, _⟩ := bd_head (h w List.mem_cons_self) r ps
    rw [e]; simp
theorem bd_one {ws : List (List Nat)} {ps : List Nat} (h : ∀ w ∈ ws, Gw w) (hp : PadOk ws ps) {v : List Nat} (hv : Gw v) : bd ws ps = v ↔ ws = [v] := by
  constructor
  · intro e
    have e1 := wds_bd ws ps h hp
    rw [e, wds_one hv] at e1
    exact e1.symm
  · intro e; subst e; rfl
end K36

namespace K36
open PySem PySem.Spec PyProof.Rows L2 SX
local macro_rules | `(tactic| walk_at "w1") => `(tactic| (first
  | with_reducible refine w_seq ?_ | with_reducible refine w_asgN ?_ | with_reducible refine w_c ?_
  | ((with_reducible refine' w_var ?wv ?_); (case wv => exact rfl))
  | with_reducible refine w_op ?_ | with_reducible refine w_un ?_ | with_reducible refine w_next ?_ | with_reducible refine w_brk ?_ | with_reducible refine w_cnt ?_
  | with_reducible refine w_ifS ?_ | with_reducible refine w_if ?_ | with_reducible refine w_test ?_ | with_reducible refine w_tB ?_ | with_reducible refine w_bl ?_ | with_reducible refine w_blI ?_
  | with_reducible refine w_and ?_ | with_reducible refine w_or ?_ | with_reducible refine w_not ?_ | with_reducible refine w_andV ?_ | with_reducible refine w_orV ?_ | with_reducible refine w_notV ?_
  | with_reducible refine w_nil ?_ | with_reducible refine w_cons ?_ | with_reducible refine w_cb ?_ | with_reducible refine w_call ?_ | with_reducible refine w_callS ?_ | with_reducible refine w_chain ?_
  | with_reducible refine w_tupN ?_ | with_reducible refine w_lstN ?_ | with_reducible refine w_sl ?_ | with_reducible refine w_noPart ?_ | with_reducible refine w_part ?_ | with_reducible refine w_partI ?_
  | with_reducible refine w_ret ?_ | with_reducible refine w_retN ?_ | with_reducible refine w_drop ?_ | with_reducible refine w_asg ?_ | with_reducible refine w_gSub ?_
  | ((with_reducible refine' w_aug ?wv ?_); (case wv => exact rfl)) | with_reducible refine w_ipI ?_
  | with_reducible refine w_addI ?_ | with_reducible refine w_subI ?_ | with_reducible refine w_ltI ?_ | with_reducible refine w_leI ?_ | with_reducible refine w_gtI ?_ | with_reducible refine w_geI ?_
  | with_reducible refine w_eqI ?_ | with_reducible refine w_neI ?_ | with_reducible refine w_eqT ?_ | with_reducible refine w_neT ?_ | with_reducible refine w_inS ?_ | with_reducible refine w_ninS ?_
  | with_reducible refine w_absI ?_ | with_reducible refine w_intI ?_ | with_reducible refine w_maxI ?_ | with_reducible refine w_minI ?_
  | with_reducible refine w_for ?_ | with_reducible refine w_iR1 ?_ | with_reducible refine w_iR2 ?_ | with_reducible refine w_iStr ?_ | with_reducible refine w_strI ?_ | with_reducible refine w_iList ?_ | with_reducible refine w_iTup ?_
  | with_reducible refine w_bm ?_ | with_reducible refine w_bm0 ?_ | with_reducible refine w_t ?_ | with_reducible refine w_f ?_ | with_reducible refine w_nt ?_ | with_reducible refine w_nx ?_ | with_reducible refine w_rt ?_ | with_reducible refine w_bk ?_ | with_reducible refine w_ct ?_ | with_reducible refine w_nf ?_ | with_reducible refine w_lc ?_ | with_reducible refine w_yes ?_ | with_reducible refine w_neg ?_ | with_reducible refine w_intB ?_ | with_reducible refine w_fld ?_ | with_reducible refine w_setf ?_ | with_reducible refine w_faug ?_ | with_reducible refine w_meth ?_ | with_reducible refine w_bmS ?_ | with_reducible refine w_start ?_))
local macro_rules | `(tactic| walk_at "w") => `(tactic| (repeat (first | walk_at "w1" | dsimp (config := { proj := false }) only [List.set_cons_zero, List.set_cons_succ])))
section
variable {w : World} {K : PySem.W.Frag} {mg : Str → Option Value} {base : Heap}

/-! ### the purse -/
def LIM : Nat := 1000000000000
def IsP (o : HO) : Prop := ∃ (c : Addr) (a b d e : Int), o = .lst [.ref c, .int a, .int b, .int d, .int e]
/-- all but the purse stands -/
def Keep (H H' : Hp) : Prop := (∀ b o, ¬ IsP o → H b = some o → H' b = some o) ∧ ∀ b, H' b = none → H b = none
/-- a: the purse, c: its cells, n: draws at most so far -/
def Pu (a c : Addr) (n : Nat) (H : Hp) : Prop := ∃ (ns : List Int) (p1 p2 p3 p4 : Nat), H a = some (.lst [.ref c, .int p1, .int p2, .int p3, .int p4]) ∧ H c = some (.lst (ns.map V.int)) ∧ (∀ i ∈ ns, 0 ≤ i) ∧ p3 < 2147483647 ∧ p4 ≤ n
theorem Pu.mono {a c : Addr} {n m : Nat} {H : Hp} (h : Pu a c n H) (z : n ≤ m) : Pu a c m H := by
  obtain ⟨ns, p1, p2, p3, p4, h1, h2, h3, h4, h5⟩ := h
  exact ⟨ns, p1, p2, p3, p4, h1, h2, h3, h4, Nat.le_trans h5 z⟩
theorem Keep.refl (H : Hp) : Keep H H := ⟨fun _ _ _ h => h, fun _ h => h⟩
theorem Keep.trans {H H1 H2 : Hp} (h : Keep H H1) (k : Keep H1 H2) : Keep H H2 := ⟨fun b o n e => k.1 b o n (h.1 b o n e), fun b e => h.2 b (k.2 b e)⟩
theorem Keep.new {H H1 : Hp} {p : Addr} {o : HO} (h : Keep H H1) (hp : H1 p = none) : Keep H (upd H1 p o) := ⟨fun b u n e => by
  rw [upd_ne (ne_of_none (h.1 b u n e) hp)]; exact h.1 b u n e, fun b e => by
  by_cases z : b = p
  · subst z; exact h.2 b hp
  · rw [upd_ne z] at e; exact h.2 b e⟩
theorem Keep.loc {H H1 : Hp} {p : Addr} {o : HO} (h : Keep H H1) (hp : H p = none) : Keep H (upd H1 p o) := ⟨fun b u n e => by
  rw [upd_ne (ne_of_none e hp)]; exact h.1 b u n e, fun b e => by
  by_cases z : b = p
  · subst z; exact hp
  · rw [upd_ne z] at e; exact h.2 b e⟩
theorem Keep.same {H H1 H2 : Hp} (h : Keep H H1) (k : Same H1 H2) : Keep H H2 := ⟨fun b o n e => k b o (h.1 b o n e), fun b e => by
  cases e1 : H1 b with
  | none => exact h.2 b e1
  | some o => rw [k b o e1] at e; cases e⟩
theorem Pu.new {a c p : Addr} {n : Nat} {H : Hp} {o : HO} (h : Pu a c n H) (hp : H p = none) : Pu a c n (upd H p o) := by
  obtain ⟨ns, p1, p2, p3, p4, h1, h2, h3⟩ := h
  exact ⟨ns, p1, p2, p3, p4, by rw [upd_ne (ne_of_none h1 hp)]; exact h1, by rw [upd_ne (ne_of_none h2 hp)]; exact h2, h3⟩
theorem Pu.loc {a c p : Addr} {n : Nat} {H : Hp} {o : HO} (h : Pu a c n H) (ha : a ≠ p) (hc : c ≠ p) : Pu a c n (upd H p o) := by
  obtain ⟨ns, p1, p2, p3, p4, h1, h2, h3⟩ := h
  exact ⟨ns, p1, p2, p3, p4, by rw [upd_ne ha]; exact h1, by rw [upd_ne hc]; exact h2, h3⟩
theorem Pu.same {a c : Addr} {n : Nat} {H H1 : Hp} (h : Pu a c n H) (k : Same H H1) : Pu a c n H1 := by
  obtain ⟨ns, p1, p2, p3, p4, h1, h2, h3⟩ := h
  exact ⟨ns, p1, p2, p3, p4, k _ _ h1, k _ _ h2, h3⟩
theorem Pu.ne {a c p : Addr} {n : Nat} {H : Hp} (h : Pu a c n H) (hp : H p = none) : a ≠ p ∧ c ≠ p := by
  obtain ⟨ns, p1, p2, p3, p4, h1, h2, h3⟩ := h
  exact ⟨ne_of_none h1 hp, ne_of_none h2 hp⟩
def sp_law_mixed : Sp := sp3 fun x y z H Q _ => ∃ s c n : Nat, x = .int s ∧ y = .int c ∧ z = .int n ∧ s < 1000000000000000000 ∧ c ≤ LIM ∧ 0 < n ∧ n < 1000000 ∧ ∀ v : Nat, v < n → Q (.int v) H
theorem ok_law_mixed (T : Txt w K mg) {fd : FuncData} (F : Fn_law_mixed K fd) (hm : mg "_law_mixed" = some (.ref (He.ga K "_law_mixed")))  : CalX P w K mg base CX0 1 "_law_mixed" sp_law_mixed := by
  refine calx0 (k := 0) F hm sc_law_mixed (b_law_mixed F) (fun _ _ _ _ h => sp3_len h) (fun cdv A outer s H vs Q E hr h => ?_)
  obtain ⟨x0, x1, x2, rfl, h⟩ := h
  refine ⟨_, (pss_cons (ps_set (i := 3) sc_law_mixed.nd rfl (Or.inl rfl) (pe_op op_modI (pe_callTy call_intI (by rfl) T.f_int (by decide +kernel) (pa_cons (pe_op op_addI (pv 0) (pe_op op_mulI (pv 1) pe_int)) pa_nil)) pe_int))
    (pss_cons (ps_set (i := 3) sc_law_mixed.nd rfl (Or.inl rfl) (pe_op op_modI (pe_callTy call_intI (by rfl) T.f_int (by decide +kernel) (pa_cons (pe_op op_mulI (pv 3) (pe_op op_addI (pe_op op_modI (pe_callTy call_intI (by rfl) T.f_int (by decide +kernel) (pa_cons (pe_op op_divI (pv 3) pe_int) pa_nil)) pe_int) pe_int)) pa_nil)) pe_int))
    (pss_cons (ps_set (i := 4) sc_law_mixed.nd rfl (Or.inl rfl) (pe_op op_modI (pe_callTy call_intI (by rfl) T.f_int (by decide +kernel) (pa_cons (pe_op op_addI (pe_op op_addI (pe_op op_mulI (pv 3) pe_int) (pe_op op_mulI (pe_op op_mulI (pv 1) (pv 1)) pe_int)) pe_int) pa_nil)) pe_int))
    (pss_cons (ps_set (i := 4) sc_law_mixed.nd rfl (Or.inl rfl) (pe_op op_modI (pe_callTy call_intI (by rfl) T.f_int (by decide +kernel) (pa_cons (pe_op op_mulI (pv 4) (pe_op op_addI (pe_op op_modI (pe_callTy call_intI (by rfl) T.f_int (by decide +kernel) (pa_cons (pe_op op_divI (pv 4) pe_int) pa_nil)) pe_int) pe_int)) pa_nil)) pe_int))
    (pss_one (ps_ret (pe_op op_modI (pe_callTy call_intI (by rfl) T.f_int (by decide +kernel) (pa_cons (pe_op op_divI (pv 4) pe_int) pa_nil)) (pv 2)))))))), ?_⟩
  rw [show start ["seed", "count", "size", "first", "second"] [x0, x1, x2] = [some x0, some x1, some x2, none, none] from rfl]
  obtain ⟨s0, c, n, rfl, rfl, rfl, hs, hc, hn, hn2, hQ⟩ := h
  have fin : ∀ v : Int, 0 ≤ v → v < n → Q (.int v) H := fun v z1 z2 => by
    have e : ((v.toNat : Nat) : Int) = v := Int.toNat_of_nonneg z1
    have z := hQ v.toNat (by omega)
    rw [e] at z; exact z
  unfold LIM at hc
  try dsimp only [cxOf]
  walk_at "w"
  refine w_mulI (.inr (by omega)) ?_
  walk_at "w"
  refine w_modI (by omega) ?_
  walk_at "w"
  refine w_divI ⟨by omega, by omega⟩ ?_
  walk_at "w"
  refine w_modI (by omega) ?_
  walk_at "w"
  have b1 : ∀ a b : Int, 0 < b → 0 ≤ a % b ∧ a % b < b := fun a b h => ⟨Int.emod_nonneg _ (by omega), Int.emod_lt_of_pos _ h⟩
  have z1 := b1 ((s0 : Int) + (c : Int) * 69621) 2147483647 (by omega)
  generalize ((s0 : Int) + (c : Int) * 69621) % 2147483647 = f1 at z1 ⊢
  refine w_mulI (.inl ⟨by omega, by omega⟩) ?_
  walk_at "w"
  refine w_modI (by omega) ?_
  walk_at "w"
  have z2 := b1 (f1 * (f1 / 8 % 65537 + 48271)) 2147483629 (by omega)
  generalize (f1 * (f1 / 8 % 65537 + 48271)) % 2147483629 = f2 at z2 ⊢
  refine w_mulI (.inr (by omega)) ?_
  walk_at "w"
  refine w_mulI (.inl ⟨by omega, by omega⟩) ?_
  walk_at "w"
  refine w_mulI (.inr (by omega)) ?_
  walk_at "w"
  refine w_modI (by omega) ?_
  walk_at "w"
  have z3 := b1 (f2 * 40014 + (c : Int) * (c : Int) * 127 + 3) 2147483563 (by omega)
  generalize (f2 * 40014 + (c : Int) * (c : Int) * 127 + 3) % 2147483563 = f3 at z3 ⊢
  refine w_divI ⟨by omega, by omega⟩ ?_
  walk_at "w"
  refine w_modI (by omega) ?_
  walk_at "w"
  refine w_mulI (.inl ⟨by omega, by omega⟩) ?_
  walk_at "w"
  refine w_modI (by omega) ?_
  walk_at "w"
  refine w_divI ⟨by omega, by omega⟩ ?_
  walk_at "w"
  refine w_modI (by omega) ?_
  walk_at "w"
  have z4 := b1 ((f3 * (f3 / 8 % 32749 + 16807)) % 2147483587 / 16) (n : Int) (by omega)
  exact fin _ z4.1 z4.2

def sp_law_take : Sp := sp2 fun x y H Q _ => ∃ (a c : Addr) (n m : Nat), x = .ref a ∧ y = .int (m : Int) ∧ 0 < m ∧ m < 1000000 ∧ Pu a c n H ∧ n + 1 ≤ LIM ∧ ∀ (v : Nat) H', v < m → Pu a c (n + 1) H' → Keep H H' → Q (.int v) H'
theorem isp (c : Addr) (a b d e : Int) : IsP (.lst [.ref c, .int a, .int b, .int d, .int e]) := ⟨c, a, b, d, e, rfl⟩
theorem Keep.pu {H H1 : Hp} {a : Addr} {o o' : HO} (k : Keep H H1) (h : H1 a = some o') (i : IsP o') : Keep H (upd H1 a o) := ⟨fun b u n e => by
  have : b ≠ a := fun z => by
    subst z; have e1 := k.1 b u n e; rw [h] at e1; cases e1; exact n i
  rw [upd_ne this]; exact k.1 b u n e, fun b e => by
  by_cases z : b = a
  · subst z; rw [upd_same] at e; cases e
  · rw [upd_ne z] at e; exact k.2 b e⟩
theorem ten18 : ((10 : Int) ^ (18 : Int).toNat) = 1000000000000000000 := by decide +kernel
theorem pow10 : CPowN 10 18 := ⟨by decide, by decide +kernel⟩
theorem ok_law_take (T : Txt w K mg) {fd : FuncData} (F : Fn_law_take K fd) (hm : mg "_law_take" = some (.ref (He.ga K "_law_take"))) (c_law_mixed : CalX P w K mg base CX0 1 "_law_mixed" sp_law_mixed) : CalX P w K mg base CX0 2 "_law_take" sp_law_take := by
  refine calx0 (k := 1) F hm sc_law_take (b_law_take F) (fun _ _ _ _ h => sp2_len h) (fun cdv A outer s H vs Q E hr h => ?_)
  obtain ⟨x0, x1, rfl, h⟩ := h
  refine ⟨_, (pss_cons (ps_asg (pe_op op_addI (pe_ix ix_list (pv 0) pe_int (fun _ _ => rfl)) pe_int) (pg_sub (pv 0) pe_int set_list))
    (Evl.pss_cut (ps_if (PW.pt (pw_and (pt_cmpR op_leI (pe_ix ix_list (pv 0) pe_int (fun _ _ => rfl)) pe_int (nomark _)) (pw_and1 (pt_cmpR op_ltI (pe_ix ix_list (pv 0) pe_int (fun _ _ => rfl)) (pe_callB call_lenQ (by rfl) T.f_len PySem.boot_len (pa_cons (pe_ix ix_list (pv 0) pe_int (fun _ _ => rfl)) pa_nil)) (nomark _)))))
    (pss_cons (ps_set (i := 2) sc_law_take.nd rfl (Or.inl rfl) (pe_ix ix_list (pe_ix ix_list (pv 0) pe_int (fun _ _ => rfl)) (pe_ix ix_list (pv 0) pe_int (fun _ _ => rfl)) (fun _ _ => rfl)))
    (pss_cons (ps_asg (pe_op op_addI (pe_ix ix_list (pv 0) pe_int (fun _ _ => rfl)) pe_int) (pg_sub (pv 0) pe_int set_list))
    (pss_cons (ps_if (pt_cmpR op_ltI (pv 2) (pe_op op_powN pe_int pe_int) (nomark _))
    (pss_one (ps_ret (pe_cx c_law_mixed hr (by decide) rfl pass0 (pa_cons (pv 2) (pa_cons (pe_ix ix_list (pv 0) pe_int (fun _ _ => rfl)) (pa_cons (pv 1) pa_nil))))))
    pss_nil)
    (pss_one (ps_asg (pv 2) (pg_sub (pv 0) pe_int set_list))))))
    pss_nil)
    (pss_cons (ps_if (pt_cmpR op_gtI (pe_ix ix_list (pv 0) pe_int (fun _ _ => rfl)) pe_int (nomark _))
    (pss_cons (ps_set (i := 3) sc_law_take.nd rfl (Or.inl rfl) (pe_op op_modI (pe_callTy call_intI (by rfl) T.f_int (by decide +kernel) (pa_cons (pe_ix ix_list (pv 0) pe_int (fun _ _ => rfl)) pa_nil)) (pv 1)))
    (pss_cons (ps_asg (pe_op op_divI (pe_ix ix_list (pv 0) pe_int (fun _ _ => rfl)) (pv 1)) (pg_sub (pv 0) pe_int set_list))
    (pss_one (ps_ret (pv 3)))))
    pss_nil)
    (pss_one (ps_ret (pe_cx c_law_mixed hr (by decide) rfl pass0 (pa_cons (pe_ix ix_list (pv 0) pe_int (fun _ _ => rfl)) (pa_cons (pe_ix ix_list (pv 0) pe_int (fun _ _ => rfl)) (pa_cons (pv 1) pa_nil))))))))), ?_⟩
  rw [show start ["purse", "size", "cell", "digit"] [x0, x1] = [some x0, some x1, none, none] from rfl]
  obtain ⟨a, c, n, m, rfl, rfl, hm, hm2, ⟨ns, p1, p2, p3, p4, h1, h2, h3, h4, h5⟩, hL, hQ⟩ := h
  have hac : c ≠ a := fun z => by
    subst z; rw [h1] at h2
    cases ns with
    | nil => cases h2
    | cons z zs => cases h2
  have fin : ∀ (v : Nat) H' (ns : List Int) (p1 p2 p3 p4 : Nat), v < m → H' a = some (.lst [.ref c, .int p1, .int p2, .int p3, .int p4]) → H' c = some (.lst (ns.map V.int)) → (∀ i ∈ ns, 0 ≤ i) → p3 < 2147483647 → p4 ≤ n + 1 → Keep H H' → Q (.int v) H' :=
    fun v H' ns p1 p2 p3 p4 hv q1 q2 q3 q4 q5 k => hQ v H' hv ⟨ns, p1, p2, p3, p4, q1, q2, q3, q4, q5⟩ k
  have i0 := isp c p1 p2 p3 p4
  try dsimp only [cxOf]
  walk_at "w"
  refine w_ixL (n := 4) (SqL.of h1) rfl ?_
  walk_at "w"
  refine w_setL (k := 4) h1 (Nat.le_of_ble_eq_true rfl) ?_
  walk_at "w"
  have g1 : upd H a (.lst [.ref c, .int p1, .int p2, .int p3, .int ((p4 : Int) + 1)]) a = some (.lst [.ref c, .int p1, .int p2, .int p3, .int ((p4 + 1 : Nat) : Int)]) := upd_same
  have g2 : upd H a (.lst [.ref c, .int p1, .int p2, .int p3, .int ((p4 : Int) + 1)]) c = some (.lst (ns.map V.int)) := by rw [upd_ne hac]; exact h2
  have k1 : Keep H (upd H a (.lst [.ref c, .int p1, .int p2, .int p3, .int ((p4 : Int) + 1)])) := Keep.pu (Keep.refl _) h1 i0
  generalize upd H a (.lst [.ref c, .int p1, .int p2, .int p3, .int ((p4 : Int) + 1)]) = H1 at g1 g2 k1 ⊢
  refine w_mid (fun σ H2 => ∃ (v1 : Option V) (p1 p2 : Nat), σ = [some (.ref a), some (.int (m : Int)), v1, none] ∧ H2 a = some (.lst [.ref c, .int p1, .int p2, .int p3, .int ((p4 + 1 : Nat) : Int)]) ∧ H2 c = some (.lst (ns.map V.int)) ∧ Keep H H2) ?_ ?_
  · walk_at "w"
    refine w_ixL (n := 2) (SqL.of g1) rfl ?_
    walk_at "w"
    refine w_dec (fun q1 => ?_) (fun q1 => ?_)
    rotate_left
    · walk_at "w"
      exact ⟨_, p1, p2, rfl, g1, g2, k1⟩
    walk_at "w"
    refine w_ixL (n := 1) (SqL.of g1) rfl ?_
    walk_at "w"
    refine w_ixL (n := 0) (SqL.of g1) rfl ?_
    walk_at "w"
    refine w_lenL (SqL.of g2) ?_
    walk_at "w"
    refine w_dec (fun q2 => ?_) (fun q2 => ?_)
    rotate_left
    · walk_at "w"
      exact ⟨_, p1, p2, rfl, g1, g2, k1⟩
    walk_at "w"
    refine w_ixL (n := 0) (SqL.of g1) rfl ?_
    walk_at "w"
    refine w_ixL (n := 1) (SqL.of g1) rfl ?_
    rw [List.length_map] at q2
    have q2' : p1 < ns.length := by omega
    have hcell : (ns.map V.int)[p1]? = some (.int ns[p1]) := by rw [List.getElem?_map, List.getElem?_eq_getElem q2']; rfl
    have hpos := h3 ns[p1] (List.getElem_mem q2')
    obtain ⟨cell, hcl⟩ : ∃ k : Nat, ns[p1] = (k : Int) := ⟨ns[p1].toNat, by omega⟩
    rw [hcl] at hcell
    refine w_ixL (SqL.of g2) hcell ?_
    walk_at "w"
    refine w_ixL (n := 1) (SqL.of g1) rfl ?_
    walk_at "w"
    refine w_setL (k := 1) g1 (Nat.le_of_ble_eq_true rfl) ?_
    walk_at "w"
    have i1 := isp c p1 p2 p3 ((p4 + 1 : Nat) : Int)
    have e1 : upd H1 a (.lst [.ref c, .int ((p1 : Int) + 1), .int p2, .int p3, .int ((p4 + 1 : Nat) : Int)]) a = some (.lst [.ref c, .int ((p1 + 1 : Nat) : Int), .int p2, .int p3, .int ((p4 + 1 : Nat) : Int)]) := upd_same
    have e2 : upd H1 a (.lst [.ref c, .int ((p1 : Int) + 1), .int p2, .int p3, .int ((p4 + 1 : Nat) : Int)]) c = some (.lst (ns.map V.int)) := by rw [upd_ne hac]; exact g2
    have k2 : Keep H (upd H1 a (.lst [.ref c, .int ((p1 : Int) + 1), .int p2, .int p3, .int ((p4 + 1 : Nat) : Int)])) := Keep.pu k1 g1 i1
    generalize upd H1 a (.lst [.ref c, .int ((p1 : Int) + 1), .int p2, .int p3, .int ((p4 + 1 : Nat) : Int)]) = H2 at e1 e2 k2 ⊢
    refine w_powN pow10 ?_
    have hB := ten18
    generalize ((10 : Int) ^ (18 : Int).toNat) = B at hB ⊢
    walk_at "w"
    refine w_dec (fun q3 => ?_) (fun q3 => ?_)
    · walk_at "w"
      refine w_ixL (n := 4) (SqL.of e1) rfl ?_
      walk_at "w"
      refine ⟨_, _, _, rfl, cell, p4 + 1, m, rfl, rfl, rfl, by omega, by omega, hm, hm2, fun v hv => ?_⟩
      walk_at "w"
      exact fin v _ ns (p1 + 1) p2 p3 (p4 + 1) hv e1 e2 h3 h4 (by omega) k2
    · walk_at "w"
      refine w_setL (k := 2) e1 (Nat.le_of_ble_eq_true rfl) ?_
      walk_at "w"
      exact ⟨_, p1 + 1, cell, rfl, upd_same, by rw [upd_ne hac]; exact e2, Keep.pu k2 e1 (isp _ _ _ _ _)⟩
  rintro σ H2 ⟨v1, p1, p2, rfl, g1, g2, k2⟩
  walk_at "w"
  refine w_ixL (n := 2) (SqL.of g1) rfl ?_
  walk_at "w"
  refine w_dec (fun q1 => ?_) (fun q1 => ?_)
  · walk_at "w"
    refine w_ixL (n := 2) (SqL.of g1) rfl ?_
    walk_at "w"
    refine w_modI (by omega) ?_
    walk_at "w"
    refine w_ixL (n := 2) (SqL.of g1) rfl ?_
    walk_at "w"
    refine w_divI ⟨by omega, by omega⟩ ?_
    walk_at "w"
    refine w_setL (k := 2) g1 (Nat.le_of_ble_eq_true rfl) ?_
    walk_at "w"
    have em : ((p2 : Int) % (m : Int)) = ((p2 % m : Nat) : Int) := (Int.natCast_emod _ _).symm
    have ed : ((p2 : Int) / (m : Int)) = ((p2 / m : Nat) : Int) := (Int.natCast_ediv _ _).symm
    rw [em, ed]
    exact fin (p2 % m) _ ns p1 (p2 / m) p3 (p4 + 1) (Nat.mod_lt _ hm) upd_same (by rw [upd_ne hac]; exact g2) h3 h4 (by omega) (Keep.pu k2 g1 (isp _ _ _ _ _))
  · walk_at "w"
    refine w_ixL (n := 3) (SqL.of g1) rfl ?_
    walk_at "w"
    refine w_ixL (n := 4) (SqL.of g1) rfl ?_
    walk_at "w"
    refine ⟨_, _, _, rfl, p3, p4 + 1, m, rfl, rfl, rfl, by omega, by omega, hm, hm2, fun v hv => ?_⟩
    walk_at "w"
    exact fin v _ ns p1 p2 p3 (p4 + 1) hv g1 g2 h3 h4 (by omega) k2

end
end K36

namespace K36
open PySem PySem.Spec PyProof.Rows L2 SX
local macro_rules | `(tactic| walk_at "w1") => `(tactic| (first
  | with_reducible refine w_seq ?_ | with_reducible refine w_asgN ?_ | with_reducible refine w_c ?_
  | ((with_reducible refine' w_var ?wv ?_); (case wv => exact rfl))
  | with_reducible refine w_op ?_ | with_reducible refine w_un ?_ | with_reducible refine w_next ?_ | with_reducible refine w_brk ?_ | with_reducible refine w_cnt ?_
  | with_reducible refine w_ifS ?_ | with_reducible refine w_if ?_ | with_reducible refine w_test ?_ | with_reducible refine w_tB ?_ | with_reducible refine w_bl ?_ | with_reducible refine w_blI ?_
  | with_reducible refine w_and ?_ | with_reducible refine w_or ?_ | with_reducible refine w_not ?_ | with_reducible refine w_andV ?_ | with_reducible refine w_orV ?_ | with_reducible refine w_notV ?_
  | with_reducible refine w_nil ?_ | with_reducible refine w_cons ?_ | with_reducible refine w_cb ?_ | with_reducible refine w_call ?_ | with_reducible refine w_callS ?_ | with_reducible refine w_chain ?_
  | with_reducible refine w_tupN ?_ | with_reducible refine w_lstN ?_ | with_reducible refine w_sl ?_ | with_reducible refine w_noPart ?_ | with_reducible refine w_part ?_ | with_reducible refine w_partI ?_
  | with_reducible refine w_ret ?_ | with_reducible refine w_retN ?_ | with_reducible refine w_drop ?_ | with_reducible refine w_asg ?_ | with_reducible refine w_gSub ?_
  | ((with_reducible refine' w_aug ?wv ?_); (case wv => exact rfl)) | with_reducible refine w_ipI ?_
  | with_reducible refine w_addI ?_ | with_reducible refine w_subI ?_ | with_reducible refine w_ltI ?_ | with_reducible refine w_leI ?_ | with_reducible refine w_gtI ?_ | with_reducible refine w_geI ?_
  | with_reducible refine w_eqI ?_ | with_reducible refine w_neI ?_ | with_reducible refine w_eqT ?_ | with_reducible refine w_neT ?_ | with_reducible refine w_inS ?_ | with_reducible refine w_ninS ?_
  | with_reducible refine w_absI ?_ | with_reducible refine w_intI ?_ | with_reducible refine w_maxI ?_ | with_reducible refine w_minI ?_
  | with_reducible refine w_for ?_ | with_reducible refine w_iR1 ?_ | with_reducible refine w_iR2 ?_ | with_reducible refine w_iStr ?_ | with_reducible refine w_strI ?_ | with_reducible refine w_iList ?_ | with_reducible refine w_iTup ?_
  | with_reducible refine w_bm ?_ | with_reducible refine w_bm0 ?_ | with_reducible refine w_t ?_ | with_reducible refine w_f ?_ | with_reducible refine w_nt ?_ | with_reducible refine w_nx ?_ | with_reducible refine w_rt ?_ | with_reducible refine w_bk ?_ | with_reducible refine w_ct ?_ | with_reducible refine w_nf ?_ | with_reducible refine w_lc ?_ | with_reducible refine w_yes ?_ | with_reducible refine w_neg ?_ | with_reducible refine w_intB ?_ | with_reducible refine w_fld ?_ | with_reducible refine w_setf ?_ | with_reducible refine w_faug ?_ | with_reducible refine w_meth ?_ | with_reducible refine w_bmS ?_ | with_reducible refine w_start ?_))
local macro_rules | `(tactic| walk_at "w") => `(tactic| (repeat (first | walk_at "w1" | dsimp (config := { proj := false }) only [List.set_cons_zero, List.set_cons_succ])))
section
variable {w : World} {K : PySem.W.Frag} {mg : Str → Option Value} {base : Heap}

/-! ### rows in the heap -/
def Ws (ws : List (List Nat)) : List V := ws.map fun r => V.str (S r)
def Is (ps : List Nat) : List V := ps.map fun (p : Nat) => V.int (p : Int)
def RowV (H : Hp) (v : V) (r : Row) : Prop := ∃ a b c, v = .ref a ∧ H a = some (.lst [.ref b, .ref c]) ∧ H b = some (.lst (Ws r.1)) ∧ H c = some (.lst (Is r.2))
theorem nip_ws (ws : List (List Nat)) : ¬ IsP (.lst (Ws ws)) := by
  rintro ⟨c, a, b, d, e, h⟩
  cases ws <;> cases h
theorem nip_is (ps : List Nat) : ¬ IsP (.lst (Is ps)) := by
  rintro ⟨c, a, b, d, e, h⟩
  cases ps <;> cases h
theorem nip_2 (x y : V) : ¬ IsP (.lst [x, y]) := by rintro ⟨c, a, b, d, e, h⟩; cases h
theorem nip_refs {xs : List V} (h : ∀ x ∈ xs, ∃ a, x = .ref a) : ¬ IsP (.lst xs) := by
  rintro ⟨c, a, b, d, e, z⟩
  cases z
  obtain ⟨q, e⟩ := h (.int a) (by simp)
  cases e
theorem nip_tup (xs : List V) : ¬ IsP (.tup xs) := by rintro ⟨c, a, b, d, e, h⟩; cases h
theorem RowV.keep {H H' : Hp} {v : V} {r : Row} (k : Keep H H') (h : RowV H v r) : RowV H' v r := by
  obtain ⟨a, b, c, e, h1, h2, h3⟩ := h
  exact ⟨a, b, c, e, k.1 _ _ (nip_2 _ _) h1, k.1 _ _ (nip_ws _) h2, k.1 _ _ (nip_is _) h3⟩
theorem RowV.same {H H' : Hp} {v : V} {r : Row} (k : Same H H') (h : RowV H v r) : RowV H' v r := by
  obtain ⟨a, b, c, e, h1, h2, h3⟩ := h
  exact ⟨a, b, c, e, k _ _ h1, k _ _ h2, k _ _ h3⟩
theorem szl {n m : Nat} (h : n ≤ m) (hm : m ≤ 16777216 := by omega) : n ≤ sizeLine := by rw [sizeLine_eq]; omega
def Fit (r : Row) : Prop := r.1.length + 1 ≤ r.2.length ∧ r.1.length ≤ 1000 ∧ (textOf r).length ≤ 10000
def sp_law_text_of : Sp := sp1 fun x H Q _ => ∃ r : Row, RowV H x r ∧ Fit r ∧ Q (.str (S (textOf r))) H
theorem rep_flat (n : Nat) : (List.replicate n [32]).flatten = rep n := by
  induction n with
  | zero => rfl
  | succ n ih => rw [List.replicate_succ, List.flatten_cons, ih]; rfl
theorem tx_at {ws : List (List Nat)} {ps : List Nat} {k : Nat} {w : List Nat} {p : Nat} (h1 : ws[k]? = some w) (h2 : ps[k]? = some p) : tx (ws.drop k) (ps.drop k) = w ++ (rep p ++ tx (ws.drop (k + 1)) (ps.drop (k + 1))) := by
  obtain ⟨a1, rfl⟩ := List.getElem?_eq_some_iff.mp h1
  obtain ⟨a2, rfl⟩ := List.getElem?_eq_some_iff.mp h2
  rw [List.drop_eq_getElem_cons a1, List.drop_eq_getElem_cons a2]; rfl
theorem bd_at {ws : List (List Nat)} {ps : List Nat} {k : Nat} {w : List Nat} {p : Nat} (h1 : ws[k]? = some w) (h2 : ps[k]? = some p) (hl : k + 1 < ws.length) : bd (ws.drop k) (ps.drop k) = w ++ (rep p ++ bd (ws.drop (k + 1)) (ps.drop (k + 1))) := by
  obtain ⟨a1, rfl⟩ := List.getElem?_eq_some_iff.mp h1
  obtain ⟨a2, rfl⟩ := List.getElem?_eq_some_iff.mp h2
  rw [List.drop_eq_getElem_cons a1, List.drop_eq_getElem_cons a2, List.drop_eq_getElem_cons hl]; rfl
theorem bd_end {ws : List (List Nat)} {ps : List Nat} {k : Nat} {w : List Nat} (h1 : ws[k]? = some w) (hl : ¬ k + 1 < ws.length) : bd (ws.drop k) (ps.drop k) = w := by
  obtain ⟨a1, rfl⟩ := List.getElem?_eq_some_iff.mp h1
  rw [List.drop_eq_getElem_cons a1, List.drop_eq_nil_of_le (by omega)]; rfl
theorem ws_at {ws : List (List Nat)} {k : Nat} {w : List Nat} (h : ws[k]? = some w) : (Ws ws)[k]? = some (.str (S w)) := by unfold Ws; rw [List.getElem?_map, h]; rfl
theorem is_at {ps : List Nat} {k : Nat} {p : Nat} (h : ps[k]? = some p) : (Is ps)[k]? = some (.int (p : Int)) := by unfold Is; rw [List.getElem?_map, h]; rfl
theorem ws_len (ws : List (List Nat)) : (Ws ws).length = ws.length := List.length_map ..
theorem is_len (ps : List Nat) : (Is ps).length = ps.length := List.length_map ..
theorem ok_law_text_of (T : Txt w K mg) {fd : FuncData} (F : Fn_law_text_of K fd) (hm : mg "_law_text_of" = some (.ref (He.ga K "_law_text_of")))  : CalX P w K mg base CX0 1 "_law_text_of" sp_law_text_of := by
  refine calx0 (k := 0) F hm sc_law_text_of (b_law_text_of F) (fun _ _ _ _ h => sp1_len h) (fun cdv A outer s H vs Q E hr h => ?_)
  obtain ⟨x0, rfl, h⟩ := h
  refine ⟨_, (pss_cons (ps_set (i := 1) sc_law_text_of.nd rfl (Or.inl rfl) (pe_op op_repS pe_str (pe_ix ix_list (pe_ix ix_list (pv 0) pe_int (fun _ _ => rfl)) pe_int (fun _ _ => rfl))))
    (pss_cons (ps_for PassesOwn.never rfl (pi_range1 (by rfl) T.f_range (pa_cons (pe_callB call_lenQ (by rfl) T.f_len PySem.boot_len (pa_cons (pe_ix ix_list (pv 0) pe_int (fun _ _ => rfl)) pa_nil)) pa_nil)) (pg_name (i := 2) sc_law_text_of.nd rfl (Or.inl rfl))
    (pss_one (ps_set (i := 1) sc_law_text_of.nd rfl (Or.inl rfl) (pe_op op_catS (pe_op op_catS (pv 1) (pe_ix ix_list (pe_ix ix_list (pv 0) pe_int (fun _ _ => rfl)) (pv 2) (fun _ _ => rfl))) (pe_op op_repS pe_str (pe_ix ix_list (pe_ix ix_list (pv 0) pe_int (fun _ _ => rfl)) (pe_op op_addI (pv 2) pe_int) (fun _ _ => rfl)))))))
    (pss_one (ps_ret (pv 1))))), ?_⟩
  rw [show start ["row", "told", "k"] [x0] = [some x0, none, none] from rfl]
  obtain ⟨⟨ws, ps⟩, ⟨a, b, c, rfl, ha, hb, hc⟩, ⟨hl, hwl, hz⟩, hQ⟩ := h
  dsimp only at hl hb hc hwl
  have e1 : Str.ofString " " = S [32] := S_ofs (by decide +kernel)
  obtain ⟨p0, pr, rfl⟩ : ∃ p0 pr, ps = p0 :: pr := by
    cases ps with
    | nil => exact absurd hl (Nat.not_succ_le_zero _)
    | cons p q => exact ⟨p, q, rfl⟩
  have hl' : ws.length ≤ pr.length := by simpa using hl
  have tl0 : textOf (ws, p0 :: pr) = rep p0 ++ tx ws pr := rfl
  have tln := congrArg List.length tl0
  have rl : ∀ n, (rep n).length = n := fun n => List.length_replicate
  rw [List.length_append, rl] at tln
  rw [e1]
  try dsimp only [cxOf]
  walk_at "w"
  refine w_ixL (n := 1) (SqL.of ha) rfl ?_
  walk_at "w"
  refine w_ixL (n := 0) (SqL.of hc) rfl ?_
  walk_at "w"
  refine w_repT (n := p0) (by show 1 * p0 ≤ _; omega) ?_
  rw [rep_flat]
  walk_at "w"
  refine w_ixL (n := 0) (SqL.of ha) rfl ?_
  walk_at "w"
  refine w_lenL (SqL.of hb) ?_
  walk_at "w"
  rw [ws_len]
  refine w_rg1 (by omega) (by omega) ?_
  refine for_range (fun i σ H' => H' = H ∧ ∃ T v, σ = [some (.ref a), some (.str (S T)), v] ∧ T ++ tx (ws.drop i) (pr.drop i) = textOf (ws, p0 :: pr)) ⟨rfl, _, _, rfl, rfl⟩ ?_ ?_
  · rintro i σ H' hi ⟨rfl, T, v, rfl, hT⟩
    have hi : i < ws.length := hi
    obtain ⟨wd, hwd⟩ : ∃ wd, ws[i]? = some wd := ⟨_, List.getElem?_eq_getElem hi⟩
    obtain ⟨p, hp⟩ : ∃ p, pr[i]? = some p := ⟨_, List.getElem?_eq_getElem (show i < pr.length by omega)⟩
    rw [tx_at hwd hp] at hT
    have hTl := congrArg List.length hT
    rw [List.length_append, List.length_append, List.length_append, rl] at hTl
    dsimp only [gName]
    walk_at "w"
    rw [show (0 : Int) + (i : Int) = (i : Int) by omega]
    refine w_ixL (n := 0) (SqL.of ha) rfl ?_
    walk_at "w"
    refine w_ixL (SqL.of hb) (ws_at hwd) ?_
    walk_at "w"
    refine w_catT (szl (show T.length + wd.length ≤ 10000 by omega)) ?_
    walk_at "w"
    refine w_ixL (n := 1) (SqL.of ha) rfl ?_
    walk_at "w"
    refine w_ixL (n := i + 1) (SqL.of hc) (is_at (ps := p0 :: pr) (k := i + 1) hp) ?_
    walk_at "w"
    refine w_repT (n := p) (by show 1 * p ≤ _; omega) ?_
    rw [rep_flat]
    walk_at "w"
    refine w_catT (szl (show (T ++ wd).length + (rep p).length ≤ 10000 by rw [List.length_append, rl]; omega)) ?_
    walk_at "w"
    refine ⟨rfl, _, _, rfl, ?_⟩
    rw [← hT]; simp [List.append_assoc]
  · rintro σ H' ⟨rfl, T, v, rfl, hT⟩
    walk_at "w"
    rw [show ((ws.length : Int)).toNat = ws.length from Int.toNat_natCast _, List.drop_length] at hT
    have : T = textOf (ws, p0 :: pr) := by rw [← hT]; show T = T ++ []; rw [List.append_nil]
    rw [this]; exact hQ

def sp_law_rest_of : Sp := sp2 fun x y H Q _ => ∃ (r : Row) (n : Nat), RowV H x r ∧ Fit r ∧ Good r ∧ y = .int (n : Int) ∧ n ≤ 100 ∧ Q (.str (S (bd (r.1.drop n) (r.2.drop (n + 1))))) H
theorem bd_len : ∀ (ws : List (List Nat)) (ps : List Nat), (bd ws ps).length ≤ (tx ws ps).length
  | [], _ => Nat.le_refl _
  | [w], [] => by show w.length ≤ (w ++ []).length; simp
  | [w], p :: ps => by show w.length ≤ (w ++ (rep p ++ [])).length; simp
  | w :: v :: r, p :: ps => by
    have := bd_len (v :: r) ps
    show (w ++ (rep p ++ bd (v :: r) ps)).length ≤ (w ++ (rep p ++ tx (v :: r) ps)).length
    simp only [List.length_append]; omega
  | w :: v :: r, [] => by
    have := bd_len (v :: r) []
    show (w ++ bd (v :: r) []).length ≤ (w ++ tx (v :: r) []).length
    simp only [List.length_append]; omega
theorem tx_drop : ∀ (n : Nat) (ws : List (List Nat)) (ps : List Nat), (tx (ws.drop n) (ps.drop n)).length ≤ (tx ws ps).length
  | 0, _, _ => Nat.le_refl _
  | n + 1, [], ps => by simp [tx]
  | n + 1, w :: r, p :: ps => by
    have := tx_drop n r ps
    show (tx (r.drop n) (ps.drop n)).length ≤ (w ++ (rep p ++ tx r ps)).length
    simp only [List.length_append]; omega
  | n + 1, w :: r, [] => by
    have := tx_drop n r []
    rw [List.drop_nil] at this
    show (tx (r.drop n) []).length ≤ (w ++ tx r []).length
    simp only [List.length_append]; omega
theorem rest_len {r : Row} (h : Fit r) (n : Nat) : (bd (r.1.drop n) (r.2.drop (n + 1))).length ≤ 10000 := by
  have h1 := bd_len (r.1.drop n) (r.2.drop (n + 1))
  have h2 := tx_drop n r.1 (r.2.drop 1)
  rw [List.drop_drop, Nat.add_comm 1 n] at h2
  have h3 := h.2.2
  unfold textOf at h3
  rw [List.length_append] at h3
  omega
theorem ok_law_rest_of (T : Txt w K mg) {fd : FuncData} (F : Fn_law_rest_of K fd) (hm : mg "_law_rest_of" = some (.ref (He.ga K "_law_rest_of")))  : CalX P w K mg base CX0 1 "_law_rest_of" sp_law_rest_of := by
  refine calx0 (k := 0) F hm sc_law_rest_of (b_law_rest_of F) (fun _ _ _ _ h => sp2_len h) (fun cdv A outer s H vs Q E hr h => ?_)
  obtain ⟨x0, x1, rfl, h⟩ := h
  refine ⟨_, (pss_cons (ps_set (i := 2) sc_law_rest_of.nd rfl (Or.inl rfl) pe_str)
    (pss_cons (ps_for PassesOwn.never rfl (pi_range2 (by rfl) T.f_range (pa_cons (pv 1) (pa_cons (pe_callB call_lenQ (by rfl) T.f_len PySem.boot_len (pa_cons (pe_ix ix_list (pv 0) pe_int (fun _ _ => rfl)) pa_nil)) pa_nil))) (pg_name (i := 3) sc_law_rest_of.nd rfl (Or.inl rfl))
    (pss_cons (ps_set (i := 2) sc_law_rest_of.nd rfl (Or.inl rfl) (pe_op op_catS (pv 2) (pe_ix ix_list (pe_ix ix_list (pv 0) pe_int (fun _ _ => rfl)) (pv 3) (fun _ _ => rfl))))
    (pss_one (ps_if (pt_cmpR op_ltI (pe_op op_addI (pv 3) pe_int) (pe_callB call_lenQ (by rfl) T.f_len PySem.boot_len (pa_cons (pe_ix ix_list (pv 0) pe_int (fun _ _ => rfl)) pa_nil)) (nomark _))
    (pss_one (ps_set (i := 2) sc_law_rest_of.nd rfl (Or.inl rfl) (pe_op op_catS (pv 2) (pe_op op_repS pe_str (pe_ix ix_list (pe_ix ix_list (pv 0) pe_int (fun _ _ => rfl)) (pe_op op_addI (pv 3) pe_int) (fun _ _ => rfl))))))
    pss_nil))))
    (pss_one (ps_ret (pv 2))))), ?_⟩
  rw [show start ["row", "first", "told", "k"] [x0, x1] = [some x0, some x1, none, none] from rfl]
  obtain ⟨⟨ws, ps⟩, n, ⟨a, b, c, rfl, ha, hb, hc⟩, hF, hG, rfl, hn, hQ⟩ := h
  have hz := rest_len hF n
  obtain ⟨hl, hwl, _⟩ := hF
  dsimp only at hl hb hc hwl hQ hz
  have e1 : Str.ofString " " = S [32] := S_ofs (by decide +kernel)
  have e2 : Str.ofString "" = S [] := S_ofs (by decide +kernel)
  have rl : ∀ n, (rep n).length = n := fun n => List.length_replicate
  rw [e1, e2]
  try dsimp only [cxOf]
  walk_at "w"
  refine w_ixL (n := 0) (SqL.of ha) rfl ?_
  walk_at "w"
  refine w_lenL (SqL.of hb) ?_
  walk_at "w"
  rw [ws_len]
  refine w_rg2 (by omega) ?_
  refine for_range (fun i σ H' => H' = H ∧ ∃ T v, σ = [some (.ref a), some (.int (n : Int)), some (.str (S T)), v] ∧ T ++ bd (ws.drop (n + i)) (ps.drop (n + i + 1)) = bd (ws.drop n) (ps.drop (n + 1))) ⟨rfl, _, _, rfl, rfl⟩ ?_ ?_
  · rintro i σ H' hi ⟨rfl, T, v, rfl, hT⟩
    have hi : n + i < ws.length := by omega
    obtain ⟨wd, hwd⟩ : ∃ wd, ws[n + i]? = some wd := ⟨_, List.getElem?_eq_getElem hi⟩
    obtain ⟨p, hp⟩ : ∃ p, ps[n + i + 1]? = some p := ⟨_, List.getElem?_eq_getElem (show n + i + 1 < ps.length by omega)⟩
    have hp' : (ps.drop 1)[n + i]? = some p := by rw [List.getElem?_drop, Nat.add_comm 1]; exact hp
    dsimp only [gName]
    walk_at "w"
    rw [show (n : Int) + (i : Int) = ((n + i : Nat) : Int) by omega]
    refine w_ixL (n := 0) (SqL.of ha) rfl ?_
    walk_at "w"
    refine w_ixL (SqL.of hb) (ws_at hwd) ?_
    walk_at "w"
    by_cases hlast : n + i + 1 < ws.length
    · have e := bd_at (ps := ps.drop 1) hwd hp' hlast
      rw [List.drop_drop, List.drop_drop, Nat.add_comm 1, Nat.add_comm 1] at e
      rw [e] at hT
      have hTl := congrArg List.length hT
      rw [List.length_append, List.length_append, List.length_append, rl] at hTl
      refine w_catT (szl (show T.length + wd.length ≤ 10000 by omega)) ?_
      walk_at "w"
      refine w_ixL (n := 0) (SqL.of ha) rfl ?_
      walk_at "w"
      refine w_lenL (SqL.of hb) ?_
      walk_at "w"
      rw [ws_len]
      refine w_dec (fun _ => ?_) (fun z => absurd (by omega) z)
      walk_at "w"
      refine w_ixL (n := 1) (SqL.of ha) rfl ?_
      walk_at "w"
      refine w_ixL (n := n + i + 1) (SqL.of hc) (is_at hp) ?_
      walk_at "w"
      refine w_repT (n := p) (by show 1 * p ≤ _; omega) ?_
      rw [rep_flat]
      walk_at "w"
      refine w_catT (szl (show (T ++ wd).length + (rep p).length ≤ 10000 by rw [List.length_append, rl]; omega)) ?_
      walk_at "w"
      refine ⟨rfl, _, _, rfl, ?_⟩
      rw [← hT, show n + (i + 1) = n + i + 1 by omega]; simp [List.append_assoc]
    · have e := bd_end (ps := ps.drop 1) hwd hlast
      rw [List.drop_drop, Nat.add_comm 1] at e
      rw [e] at hT
      have hTl := congrArg List.length hT
      rw [List.length_append] at hTl
      refine w_catT (szl (show T.length + wd.length ≤ 10000 by omega)) ?_
      walk_at "w"
      refine w_ixL (n := 0) (SqL.of ha) rfl ?_
      walk_at "w"
      refine w_lenL (SqL.of hb) ?_
      walk_at "w"
      rw [ws_len]
      refine w_dec (fun z => absurd (by omega) hlast) (fun _ => ?_)
      walk_at "w"
      refine ⟨rfl, _, _, rfl, ?_⟩
      rw [← hT, List.drop_eq_nil_of_le (show ws.length ≤ n + (i + 1) by omega)]
      show T ++ wd ++ [] = _
      rw [List.append_nil]
  · rintro σ H' ⟨rfl, T, v, rfl, hT⟩
    walk_at "w"
    by_cases h0 : n ≤ ws.length
    · rw [List.drop_eq_nil_of_le (show ws.length ≤ n + ((ws.length : Int) - (n : Int)).toNat by omega)] at hT
      have : T = bd (ws.drop n) (ps.drop (n + 1)) := by rw [← hT]; show T = T ++ []; rw [List.append_nil]
      rw [this]; exact hQ
    · rw [List.drop_eq_nil_of_le (show ws.length ≤ n + ((ws.length : Int) - (n : Int)).toNat by omega)] at hT
      have : T = bd (ws.drop n) (ps.drop (n + 1)) := by rw [← hT]; show T = T ++ []; rw [List.append_nil]
      rw [this]; exact hQ

end
end K36

namespace K36
open PySem PySem.Spec PyProof.Rows L2 SX
local macro_rules | `(tactic| walk_at "w1") => `(tactic| (first
  | with_reducible refine w_seq ?_ | with_reducible refine w_asgN ?_ | with_reducible refine w_c ?_
  | ((with_reducible refine' w_var ?wv ?_); (case wv => exact rfl))
  | with_reducible refine w_op ?_ | with_reducible refine w_un ?_ | with_reducible refine w_next ?_ | with_reducible refine w_brk ?_ | with_reducible refine w_cnt ?_
  | with_reducible refine w_ifS ?_ | with_reducible refine w_if ?_ | with_reducible refine w_test ?_ | with_reducible refine w_tB ?_ | with_reducible refine w_bl ?_ | with_reducible refine w_blI ?_
  | with_reducible refine w_and ?_ | with_reducible refine w_or ?_ | with_reducible refine w_not ?_ | with_reducible refine w_andV ?_ | with_reducible refine w_orV ?_ | with_reducible refine w_notV ?_
  | with_reducible refine w_nil ?_ | with_reducible refine w_cons ?_ | with_reducible refine w_cb ?_ | with_reducible refine w_call ?_ | with_reducible refine w_callS ?_ | with_reducible refine w_chain ?_
  | with_reducible refine w_tupN ?_ | with_reducible refine w_lstN ?_ | with_reducible refine w_sl ?_ | with_reducible refine w_noPart ?_ | with_reducible refine w_part ?_ | with_reducible refine w_partI ?_
  | with_reducible refine w_ret ?_ | with_reducible refine w_retN ?_ | with_reducible refine w_drop ?_ | with_reducible refine w_asg ?_ | with_reducible refine w_gSub ?_
  | ((with_reducible refine' w_aug ?wv ?_); (case wv => exact rfl)) | with_reducible refine w_ipI ?_
  | with_reducible refine w_addI ?_ | with_reducible refine w_subI ?_ | with_reducible refine w_ltI ?_ | with_reducible refine w_leI ?_ | with_reducible refine w_gtI ?_ | with_reducible refine w_geI ?_
  | with_reducible refine w_eqI ?_ | with_reducible refine w_neI ?_ | with_reducible refine w_eqT ?_ | with_reducible refine w_neT ?_ | with_reducible refine w_inS ?_ | with_reducible refine w_ninS ?_
  | with_reducible refine w_absI ?_ | with_reducible refine w_intI ?_ | with_reducible refine w_maxI ?_ | with_reducible refine w_minI ?_
  | with_reducible refine w_for ?_ | with_reducible refine w_iR1 ?_ | with_reducible refine w_iR2 ?_ | with_reducible refine w_iStr ?_ | with_reducible refine w_strI ?_ | with_reducible refine w_iList ?_ | with_reducible refine w_iTup ?_
  | with_reducible refine w_bm ?_ | with_reducible refine w_bm0 ?_ | with_reducible refine w_t ?_ | with_reducible refine w_f ?_ | with_reducible refine w_nt ?_ | with_reducible refine w_nx ?_ | with_reducible refine w_rt ?_ | with_reducible refine w_bk ?_ | with_reducible refine w_ct ?_ | with_reducible refine w_nf ?_ | with_reducible refine w_lc ?_ | with_reducible refine w_yes ?_ | with_reducible refine w_neg ?_ | with_reducible refine w_intB ?_ | with_reducible refine w_fld ?_ | with_reducible refine w_setf ?_ | with_reducible refine w_faug ?_ | with_reducible refine w_meth ?_ | with_reducible refine w_bmS ?_ | with_reducible refine w_start ?_))
local macro_rules | `(tactic| walk_at "w") => `(tactic| (repeat (first | walk_at "w1" | dsimp (config := { proj := false }) only [List.set_cons_zero, List.set_cons_succ])))
section
variable {w : World} {K : PySem.W.Frag} {mg : Str → Option Value} {base : Heap}

def LET : List Nat := [97,98,99,100,101,102,103,104,105,106,107,108,109,110,111,112,113,114,115,116,117,118,119,120,121,122]
def DIG : List Nat := [48,49,50,51,52,53,54,55,56,57,95]
def WS : List Nat := LET ++ DIG
theorem tl_let : (Str.ofString "abcdefghijklmnopqrstuvwxyz").cps.toList = LET := by decide +kernel
theorem tl_dig : (Str.ofString "0123456789_").cps.toList = DIG := by decide +kernel
theorem tl_ws : (Str.ofString "abcdefghijklmnopqrstuvwxyz0123456789_").cps.toList = WS := by decide +kernel
def RES : List (List Nat) := [[97,108,108],[115,111,109,101],[108,97,109],[116,114,117,101],[102,97,108,115,101],[98,111,111,108]]
theorem tb_res (K : PySem.W.Frag) : tb_RESERVED.map (He.Dv.v K) = RES.map fun r => V.str (S r) := by
  show [V.str _, V.str _, V.str _, V.str _, V.str _, V.str _] = [V.str _, V.str _, V.str _, V.str _, V.str _, V.str _]
  decide +kernel
def isName (l : List Nat) : Bool := decide ((1 ≤ l.length ∧ l.length ≤ 16) ∧ l ∉ RES ∧ (∃ c, l[0]? = some c ∧ c ∈ LET) ∧ ∀ c ∈ l, c ∈ WS)
def sp_is_name : Sp := sp1 fun a H Q _ => ∃ l : List Nat, a = .str (S l) ∧ l.length ≤ 100000 ∧ Q (.bl (isName l)) H
theorem ok_is_name (T : Txt w K mg) {fd : FuncData} (F : Fn_is_name K fd) (hm : mg "is_name" = some (.ref (He.ga K "is_name")))  : CalX P w K mg base CX0 1 "is_name" sp_is_name := by
  refine calx0 (k := 0) F hm sc_is_name (b_is_name F) (fun _ _ _ _ h => sp1_len h) (fun cdv A outer s H vs Q E hr h => ?_)
  obtain ⟨x0, rfl, h⟩ := h
  refine ⟨_, (pss_cons (ps_if (PW.pt (pw_or (pt_not (pt_val (pe_callB call_isi (by rfl) T.f_isinstance (by decide +kernel) (pa_cons (pv 0) (pa_cons (pe_bltn (v := .ty "str") (by rfl) T.f_str (by decide +kernel) rfl) pa_nil))))) (pw_or1 (pt_not (pt_chain op_leI op_leI pe_int (pe_callB call_lenT (by rfl) T.f_len PySem.boot_len (pa_cons (pv 0) pa_nil)) (pe_gv T.v_NAME_LENGTH))))))
    (pss_one (ps_ret pe_bl))
    pss_nil)
    (pss_cons (ps_if (PW.pt (pw_or (pt_cmpR op_in_seq (pv 0) (pe_gv T.v_RESERVED) rfl) (pw_or1 (pt_cmpR op_notInC (pe_ix ix_str (pv 0) pe_int (fun _ _ => rfl)) (pe_gv T.v_LETTERS) rfl))))
    (pss_one (ps_ret pe_bl))
    pss_nil)
    (pss_cons (ps_for PassesOwn.never rfl (pi_str (pv 0)) (pg_name (i := 1) sc_is_name.nd rfl (Or.inl rfl))
    (pss_one (ps_if (pt_cmpR op_notInC (pv 1) (pe_gv T.v_NAME_SIGNS) rfl)
    (pss_one (ps_ret pe_bl))
    pss_nil)))
    (pss_one (ps_ret pe_bl))))), ?_⟩
  rw [show start ["word", "sign"] [x0] = [some x0, none] from rfl]
  obtain ⟨l, rfl, hl, hQ⟩ := h
  have hz : l.length ≤ sizeLine := Nat.le_trans hl (by decide)
  have no : isName l = false → Q (.bl false) H := fun e => e ▸ hQ
  rw [S_ofs tl_let, S_ofs tl_ws]
  dsimp only [cxOf]
  walk_at "w"
  refine w_isi (.base (.str _)) kit_ss ?_
  walk_at "w"
  refine w_lenS hz ?_
  walk_at "w"
  refine w_dec (fun h1 => ?_) (fun h1 => ?_)
  · walk_at "w"
    refine w_ndec (fun h2 => ?_) (fun h2 => ?_)
    · walk_at "w"
      exact no (by unfold isName; exact decide_eq_false fun z => h2 (by have := z.1.2; omega))
    walk_at "w"
    refine w_inTab (T.t_RESERVED _) (tb_res K) ?_
    walk_at "w"
    refine w_dec (fun h3 => ?_) (fun h3 => ?_)
    · walk_at "w"
      exact no (by unfold isName; exact decide_eq_false fun z => z.2.1 h3)
    walk_at "w"
    obtain ⟨c, hc⟩ : ∃ c, l[0]? = some c := by
      cases l with
      | nil => simp at h1
      | cons c r => exact ⟨c, rfl⟩
    refine w_ixS (n := 0) hz hc ?_
    walk_at "w"
    refine w_ndec (fun h4 => ?_) (fun h4 => ?_)
    · walk_at "w"
      refine no ?_
      unfold isName
      refine decide_eq_false fun z => ?_
      obtain ⟨c', hc', h5⟩ := z.2.2.1
      rw [hc] at hc'; cases hc'
      exact h4 h5
    walk_at "w"
    refine for_str (fun i σ H' => H' = H ∧ (∃ v, σ = [some (.str (S l)), v]) ∧ ∀ j, j < i → ∀ c, l[j]? = some c → c ∈ WS) ⟨rfl, ⟨_, rfl⟩, fun j hj => absurd hj (Nat.not_lt_zero _)⟩ ?_ ?_
    · rintro i d σ H' hd ⟨rfl, ⟨v, rfl⟩, hj⟩
      dsimp only [gName]
      walk_at "w"
      refine w_ndec (fun h5 => ?_) (fun h5 => ?_)
      · walk_at "w"
        exact no (by unfold isName; exact decide_eq_false fun z => h5 (z.2.2.2 d (List.mem_of_getElem? hd)))
      · walk_at "w"
        refine ⟨rfl, ⟨_, rfl⟩, fun j hj' c hc' => ?_⟩
        by_cases e : j = i
        · subst e; rw [hd] at hc'; cases hc'; exact h5
        · exact hj j (by omega) c hc'
    · rintro σ H' ⟨rfl, ⟨v, rfl⟩, hj⟩
      walk_at "w"
      have e : isName l = true := by
        unfold isName
        refine decide_eq_true ⟨⟨by omega, by omega⟩, h3, ⟨c, hc, h4⟩, fun d hd => ?_⟩
        obtain ⟨j, hj1, hj2⟩ := List.getElem_of_mem hd
        exact hj j hj1 d (by rw [List.getElem?_eq_getElem hj1, hj2])
      rw [e] at hQ
      exact hQ
  · walk_at "w"
    exact no (by unfold isName; exact decide_eq_false fun z => h1 (by have := z.1.1; omega))

def sp_law_is_name : Sp := sp1 fun a H Q _ => ∃ l : List Nat, a = .str (S l) ∧ l.length ≤ 100000 ∧ ∀ H', Same H H' → Q (.bl (isName l)) H'
theorem res_vs : ([.str "all", .str "some", .str "lam", .str "true", .str "false", .str "bool"] : List V) = RES.map fun r => V.str (S r) := by decide +kernel
theorem ok_law_is_name (T : Txt w K mg) {fd : FuncData} (F : Fn_law_is_name K fd) (hm : mg "_law_is_name" = some (.ref (He.ga K "_law_is_name")))  : CalX P w K mg base CX0 1 "_law_is_name" sp_law_is_name := by
  refine calx0 (k := 0) F hm sc_law_is_name (b_law_is_name F) (fun _ _ _ _ h => sp1_len h) (fun cdv A outer s H vs Q E hr h => ?_)
  obtain ⟨x0, rfl, h⟩ := h
  refine ⟨_, (pss_cons (ps_if (PW.pt (pw_or (pt_cmpR op_ltI (pe_callB call_lenT (by rfl) T.f_len PySem.boot_len (pa_cons (pv 0) pa_nil)) pe_int (nomark _)) (pw_or (pt_cmpR op_gtI (pe_callB call_lenT (by rfl) T.f_len PySem.boot_len (pa_cons (pv 0) pa_nil)) pe_int (nomark _)) (pw_or1 (pt_cmpR op_in_seq (pv 0) (pe_tup (pa_cons pe_str (pa_cons pe_str (pa_cons pe_str (pa_cons pe_str (pa_cons pe_str (pa_cons pe_str pa_nil))))))) rfl)))))
    (pss_one (ps_ret pe_bl))
    pss_nil)
    (pss_cons (ps_for PassesOwn.never rfl (pi_range1 (by rfl) T.f_range (pa_cons (pe_callB call_lenT (by rfl) T.f_len PySem.boot_len (pa_cons (pv 0) pa_nil)) pa_nil)) (pg_name (i := 1) sc_law_is_name.nd rfl (Or.inl rfl))
    (pss_cons (ps_set (i := 2) sc_law_is_name.nd rfl (Or.inl rfl) (pe_cmpR op_inC (pe_ix ix_str (pv 0) (pv 1) (fun _ _ => rfl)) pe_str rfl))
    (pss_one (ps_if (PW.pt (pw_and (pt_not (pt_val (pv 2))) (pw_and1 (PW.pt (pw_or (pt_cmpR op_eq (pv 1) pe_int (nomark _)) (pw_or1 (pt_cmpR op_notInC (pe_ix ix_str (pv 0) (pv 1) (fun _ _ => rfl)) pe_str rfl)))))))
    (pss_one (ps_ret pe_bl))
    pss_nil))))
    (pss_one (ps_ret pe_bl)))), ?_⟩
  rw [show start ["word", "k", "is_letter"] [x0] = [some x0, none, none] from rfl]
  obtain ⟨l, rfl, hl, hQ⟩ := h
  have hz : l.length ≤ sizeLine := szl hl
  have no : isName l = false → ∀ H', Same H H' → Q (.bl false) H' := fun e => e ▸ hQ
  rw [S_ofs tl_let, S_ofs tl_dig]
  dsimp only [cxOf]
  walk_at "w"
  refine w_lenS hz ?_
  walk_at "w"
  refine w_dec (fun h1 => ?_) (fun h1 => ?_)
  · walk_at "w"
    exact no (by unfold isName; exact decide_eq_false fun z => by omega) _ (Same.refl _)
  walk_at "w"
  refine w_lenS hz ?_
  walk_at "w"
  refine w_dec (fun h2 => ?_) (fun h2 => ?_)
  · walk_at "w"
    exact no (by unfold isName; exact decide_eq_false fun z => by omega) _ (Same.refl _)
  walk_at "w"
  refine n_T (fun p H1 hp s1 e1 => ?_)
  refine w_inTab (SqT.of e1) res_vs ?_
  walk_at "w"
  refine w_dec (fun h3 => ?_) (fun h3 => ?_)
  · walk_at "w"
    exact no (by unfold isName; exact decide_eq_false fun z => z.2.1 h3) _ s1
  walk_at "w"
  refine w_lenS hz ?_
  walk_at "w"
  refine w_rg1 (by omega) (by omega) ?_
  have name : (∀ j, j < l.length → ∀ c, l[j]? = some c → c ∈ WS ∧ (j = 0 → c ∈ LET)) → isName l = true := fun hj => by
    unfold isName
    refine decide_eq_true ⟨⟨by omega, by omega⟩, h3, ⟨l[0]'(by omega), List.getElem?_eq_getElem _, (hj 0 (by omega) _ (List.getElem?_eq_getElem _)).2 rfl⟩, fun d hd => ?_⟩
    obtain ⟨j, hj1, hj2⟩ := List.getElem_of_mem hd
    exact (hj j hj1 d (by rw [List.getElem?_eq_getElem hj1, hj2])).1
  refine for_range (fun i σ H' => H' = H1 ∧ (∃ v u, σ = [some (.str (S l)), v, u]) ∧ ∀ j, j < i → ∀ c, l[j]? = some c → c ∈ WS ∧ (j = 0 → c ∈ LET)) ⟨rfl, ⟨_, _, rfl⟩, fun j hj => absurd hj (Nat.not_lt_zero _)⟩ ?_ ?_
  · rintro i σ H' hi ⟨rfl, ⟨v, u, rfl⟩, hj⟩
    have hi : i < l.length := hi
    have hc := List.getElem?_eq_getElem hi
    have bad : (l[i] ∉ WS ∨ (i = 0 ∧ l[i] ∉ LET)) → isName l = false := fun z => by
      unfold isName
      refine decide_eq_false fun y => ?_
      rcases z with z | ⟨z1, z2⟩
      · exact z (y.2.2.2 _ (List.getElem_mem hi))
      · obtain ⟨c, hc', h5⟩ := y.2.2.1
        subst z1
        rw [List.getElem?_eq_getElem hi] at hc'; cases hc'
        exact z2 h5
    have go : (l[i] ∈ WS) → (i = 0 → l[i] ∈ LET) → ∀ j, j < i + 1 → ∀ c, l[j]? = some c → c ∈ WS ∧ (j = 0 → c ∈ LET) := fun z1 z2 j hj' c hc' => by
      by_cases e : j = i
      · subst e; rw [hc] at hc'; cases hc'; exact ⟨z1, z2⟩
      · exact hj j (by omega) c hc'
    dsimp only [gName]
    walk_at "w"
    rw [show (0 : Int) + (i : Int) = (i : Int) by omega]
    refine w_ixS hz hc ?_
    walk_at "w"
    by_cases h5 : l[i] ∈ LET
    · rw [decide_eq_true h5]
      walk_at "w"
      exact ⟨rfl, ⟨_, _, rfl⟩, go (List.mem_append_left _ h5) fun _ => h5⟩
    · rw [decide_eq_false h5]
      walk_at "w"
      refine w_dec (fun h6 => ?_) (fun h6 => ?_)
      · walk_at "w"
        exact no (bad (.inr ⟨by omega, h5⟩)) _ s1
      walk_at "w"
      refine w_ixS hz hc ?_
      walk_at "w"
      refine w_ndec (fun h7 => ?_) (fun h7 => ?_)
      · walk_at "w"
        exact no (bad (.inl fun z => by rcases List.mem_append.mp z with z | z; exact h5 z; exact h7 z)) _ s1
      · walk_at "w"
        exact ⟨rfl, ⟨_, _, rfl⟩, go (List.mem_append_right _ h7) fun z => absurd (by omega) h6⟩
  · rintro σ H' ⟨rfl, ⟨v, u, rfl⟩, hj⟩
    walk_at "w"
    have e := name (by simpa using hj)
    have := hQ _ s1
    rw [e] at this; exact this

end
end K36

namespace K36
open PySem PySem.Spec PyProof.Rows L2 SX
local macro_rules | `(tactic| walk_at "w1") => `(tactic| (first
  | with_reducible refine w_seq ?_ | with_reducible refine w_asgN ?_ | with_reducible refine w_c ?_
  | ((with_reducible refine' w_var ?wv ?_); (case wv => exact rfl))
  | with_reducible refine w_op ?_ | with_reducible refine w_un ?_ | with_reducible refine w_next ?_ | with_reducible refine w_brk ?_ | with_reducible refine w_cnt ?_
  | with_reducible refine w_ifS ?_ | with_reducible refine w_if ?_ | with_reducible refine w_test ?_ | with_reducible refine w_tB ?_ | with_reducible refine w_bl ?_ | with_reducible refine w_blI ?_
  | with_reducible refine w_and ?_ | with_reducible refine w_or ?_ | with_reducible refine w_not ?_ | with_reducible refine w_andV ?_ | with_reducible refine w_orV ?_ | with_reducible refine w_notV ?_
  | with_reducible refine w_nil ?_ | with_reducible refine w_cons ?_ | with_reducible refine w_cb ?_ | with_reducible refine w_call ?_ | with_reducible refine w_callS ?_ | with_reducible refine w_chain ?_
  | with_reducible refine w_tupN ?_ | with_reducible refine w_lstN ?_ | with_reducible refine w_sl ?_ | with_reducible refine w_noPart ?_ | with_reducible refine w_part ?_ | with_reducible refine w_partI ?_
  | with_reducible refine w_ret ?_ | with_reducible refine w_retN ?_ | with_reducible refine w_drop ?_ | with_reducible refine w_asg ?_ | with_reducible refine w_gSub ?_
  | ((with_reducible refine' w_aug ?wv ?_); (case wv => exact rfl)) | with_reducible refine w_ipI ?_
  | with_reducible refine w_addI ?_ | with_reducible refine w_subI ?_ | with_reducible refine w_ltI ?_ | with_reducible refine w_leI ?_ | with_reducible refine w_gtI ?_ | with_reducible refine w_geI ?_
  | with_reducible refine w_eqI ?_ | with_reducible refine w_neI ?_ | with_reducible refine w_eqT ?_ | with_reducible refine w_neT ?_ | with_reducible refine w_inS ?_ | with_reducible refine w_ninS ?_
  | with_reducible refine w_absI ?_ | with_reducible refine w_intI ?_ | with_reducible refine w_maxI ?_ | with_reducible refine w_minI ?_
  | with_reducible refine w_for ?_ | with_reducible refine w_iR1 ?_ | with_reducible refine w_iR2 ?_ | with_reducible refine w_iStr ?_ | with_reducible refine w_strI ?_ | with_reducible refine w_iList ?_ | with_reducible refine w_iTup ?_
  | with_reducible refine w_bm ?_ | with_reducible refine w_bm0 ?_ | with_reducible refine w_t ?_ | with_reducible refine w_f ?_ | with_reducible refine w_nt ?_ | with_reducible refine w_nx ?_ | with_reducible refine w_rt ?_ | with_reducible refine w_bk ?_ | with_reducible refine w_ct ?_ | with_reducible refine w_nf ?_ | with_reducible refine w_lc ?_ | with_reducible refine w_yes ?_ | with_reducible refine w_neg ?_ | with_reducible refine w_intB ?_ | with_reducible refine w_fld ?_ | with_reducible refine w_setf ?_ | with_reducible refine w_faug ?_ | with_reducible refine w_meth ?_ | with_reducible refine w_bmS ?_ | with_reducible refine w_start ?_))
local macro_rules | `(tactic| walk_at "w") => `(tactic| (repeat (first | walk_at "w1" | dsimp (config := { proj := false }) only [List.set_cons_zero, List.set_cons_succ])))
section
variable {w : World} {K : PySem.W.Frag} {mg : Str → Option Value} {base : Heap}

/-! ### good words, lists of words, rows, pages -/
def Wd (l : List Nat) : Prop := l ≠ [] ∧ l.length ≤ 40 ∧ ∀ c ∈ l, c ≠ 32 ∧ c ≠ 10 ∧ c < 256
instance (l : List Nat) : Decidable (Wd l) := inferInstanceAs (Decidable (_ ∧ _ ∧ _))
def AW (xs : List V) : Prop := ∀ v ∈ xs, ∃ l, v = .str (S l) ∧ Wd l
theorem AW.of {ls : List (List Nat)} (h : ∀ l ∈ ls, Wd l) : AW (Ws ls) := fun v hv => by
  obtain ⟨l, hl, rfl⟩ := List.mem_map.mp hv; exact ⟨l, rfl, h l hl⟩
theorem AW.append {xs ys : List V} (h : AW xs) (k : AW ys) : AW (xs ++ ys) := fun v hv => by
  rcases List.mem_append.mp hv with z | z
  · exact h v z
  · exact k v z
theorem AW.nil : AW [] := fun v h => by cases h
theorem AW.cons {l : List Nat} {xs : List V} (h : Wd l) (k : AW xs) : AW (.str (S l) :: xs) := fun v hv => by
  rcases List.mem_cons.mp hv with rfl | z
  · exact ⟨l, rfl, h⟩
  · exact k v z
theorem AW.get {xs : List V} (h : AW xs) {i : Nat} (hi : i < xs.length) : ∃ l, xs[i]? = some (.str (S l)) ∧ Wd l := by
  obtain ⟨l, e, w⟩ := h _ (List.getElem_mem hi)
  exact ⟨l, by rw [List.getElem?_eq_getElem hi, e], w⟩
theorem AW.words : ∀ {xs : List V}, AW xs → ∃ ws, xs = Ws ws ∧ ∀ w ∈ ws, Wd w
  | [], _ => ⟨[], rfl, fun _ h => by cases h⟩
  | v :: xs, h => by
    obtain ⟨l, rfl, w⟩ := h v List.mem_cons_self
    obtain ⟨ws, rfl, ww⟩ := AW.words (xs := xs) fun v hv => h v (List.mem_cons_of_mem _ hv)
    exact ⟨l :: ws, rfl, fun u hu => by rcases List.mem_cons.mp hu with rfl | z; exact w; exact ww u z⟩
/-- a list of at most m good words -/
def WL (m : Nat) (H : Hp) (v : V) : Prop := ∃ b ws, v = .ref b ∧ H b = some (.lst (Ws ws)) ∧ ws.length ≤ m ∧ ∀ w ∈ ws, Wd w
theorem WL.same {m : Nat} {H H' : Hp} {v : V} (k : Same H H') (h : WL m H v) : WL m H' v := by
  obtain ⟨b, ws, e, h1, h2⟩ := h; exact ⟨b, ws, e, k _ _ h1, h2⟩
theorem WL.keep {m : Nat} {H H' : Hp} {v : V} (k : Keep H H') (h : WL m H v) : WL m H' v := by
  obtain ⟨b, ws, e, h1, h2⟩ := h; exact ⟨b, ws, e, k.1 _ _ (nip_ws _) h1, h2⟩
theorem WL.of {m : Nat} {H : Hp} {b : Addr} {xs : List V} (e : H b = some (.lst xs)) (h : AW xs) (hl : xs.length ≤ m) : WL m H (.ref b) := by
  obtain ⟨ws, rfl, w⟩ := h.words
  exact ⟨b, ws, rfl, e, by rw [ws_len] at hl; exact hl, w⟩
def WA (m : Nat) (H : Hp) (xs : List V) : Prop := ∀ v ∈ xs, WL m H v
theorem WA.nil (m : Nat) (H : Hp) : WA m H [] := fun v h => by cases h
theorem WA.same {m : Nat} {H H' : Hp} {xs : List V} (h : WA m H xs) (k : Same H H') : WA m H' xs := fun v hv => (h v hv).same k
theorem WA.keep {m : Nat} {H H' : Hp} {xs : List V} (h : WA m H xs) (k : Keep H H') : WA m H' xs := fun v hv => (h v hv).keep k
theorem WA.append {m : Nat} {H : Hp} {xs ys : List V} (h : WA m H xs) (k : WA m H ys) : WA m H (xs ++ ys) := fun v hv => by
  rcases List.mem_append.mp hv with z | z
  · exact h v z
  · exact k v z
/-- one more word list, just made -/
theorem WA.snoc {m : Nat} {H H' : Hp} {xs ys : List V} {b : Addr} (h : WA m H xs) (k : Same H H') (e : H' b = some (.lst ys)) (w : AW ys) (hl : ys.length ≤ m) : WA m H' (xs ++ [.ref b]) := fun v hv => by
  rcases List.mem_append.mp hv with z | z
  · exact (h v z).same k
  · rw [List.mem_singleton.mp z]; exact WL.of e w hl
theorem WA.refs {m : Nat} {H : Hp} {xs : List V} (h : WA m H xs) : ∀ x ∈ xs, ∃ a, x = .ref a := fun x hx => by
  obtain ⟨b, _, e, _⟩ := h x hx; exact ⟨b, e⟩
theorem WA.get {m : Nat} {H : Hp} {xs : List V} (h : WA m H xs) {i : Nat} (hi : i < xs.length) : ∃ v, xs[i]? = some v ∧ WL m H v := ⟨_, List.getElem?_eq_getElem hi, h _ (List.getElem_mem hi)⟩
/-- a good row of at most n words -/
def Rg (n : Nat) (H : Hp) (v : V) : Prop := ∃ r : Row, RowV H v r ∧ r.1.length ≤ n ∧ (∀ w ∈ r.1, Wd w) ∧ PadOk r.1 (r.2.drop 1) ∧ r.2.length = r.1.length + 1 ∧ ∀ p ∈ r.2, p ≤ 10
theorem Rg.same {n : Nat} {H H' : Hp} {v : V} (k : Same H H') (h : Rg n H v) : Rg n H' v := by
  obtain ⟨r, h1, h2⟩ := h; exact ⟨r, h1.same k, h2⟩
theorem Rg.keep {n : Nat} {H H' : Hp} {v : V} (k : Keep H H') (h : Rg n H v) : Rg n H' v := by
  obtain ⟨r, h1, h2⟩ := h; exact ⟨r, h1.keep k, h2⟩
theorem Rg.mono {n m : Nat} {H : Hp} {v : V} (h : Rg n H v) (z : n ≤ m) : Rg m H v := by
  obtain ⟨r, h1, h2, h3⟩ := h; exact ⟨r, h1, Nat.le_trans h2 z, h3⟩
def RA (n : Nat) (H : Hp) (xs : List V) : Prop := ∀ v ∈ xs, Rg n H v
theorem RA.nil (m : Nat) (H : Hp) : RA m H [] := fun v h => by cases h
theorem RA.same {m : Nat} {H H' : Hp} {xs : List V} (h : RA m H xs) (k : Same H H') : RA m H' xs := fun v hv => (h v hv).same k
theorem RA.keep {m : Nat} {H H' : Hp} {xs : List V} (h : RA m H xs) (k : Keep H H') : RA m H' xs := fun v hv => (h v hv).keep k
theorem RA.mono {n m : Nat} {H : Hp} {xs : List V} (h : RA n H xs) (z : n ≤ m) : RA m H xs := fun v hv => (h v hv).mono z
theorem RA.append {m : Nat} {H : Hp} {xs ys : List V} (h : RA m H xs) (k : RA m H ys) : RA m H (xs ++ ys) := fun v hv => by
  rcases List.mem_append.mp hv with z | z
  · exact h v z
  · exact k v z
theorem RA.one {m : Nat} {H : Hp} {v : V} (h : Rg m H v) : RA m H [v] := fun u hu => by rw [List.mem_singleton.mp hu]; exact h
theorem RA.take {m : Nat} {H : Hp} {xs : List V} (h : RA m H xs) (k : Nat) : RA m H (xs.take k) := fun v hv => h v (List.mem_of_mem_take hv)
theorem RA.drop {m : Nat} {H : Hp} {xs : List V} (h : RA m H xs) (k : Nat) : RA m H (xs.drop k) := fun v hv => h v (List.mem_of_mem_drop hv)
theorem RA.refs {m : Nat} {H : Hp} {xs : List V} (h : RA m H xs) : ∀ x ∈ xs, ∃ a, x = .ref a := fun x hx => by
  obtain ⟨r, ⟨b, _, _, e, _⟩, _⟩ := h x hx; exact ⟨b, e⟩
/-- a page of at most m good rows -/
def Pg (n m : Nat) (H : Hp) (v : V) : Prop := ∃ a xs, v = .ref a ∧ H a = some (.lst xs) ∧ xs.length ≤ m ∧ RA n H xs
theorem Pg.same {n m : Nat} {H H' : Hp} {v : V} (k : Same H H') (h : Pg n m H v) : Pg n m H' v := by
  obtain ⟨a, xs, e, h1, h2, h3⟩ := h; exact ⟨a, xs, e, k _ _ h1, h2, h3.same k⟩
theorem Pg.keep {n m : Nat} {H H' : Hp} {v : V} (k : Keep H H') (h : Pg n m H v) : Pg n m H' v := by
  obtain ⟨a, xs, e, h1, h2, h3⟩ := h; exact ⟨a, xs, e, k.1 _ _ (nip_refs h3.refs) h1, h2, h3.keep k⟩
/-- what is new -/
def nw (H H' : Hp) : Hp := fun b => match H b with
  | none => H' b
  | some _ => none
theorem nw_at {H H' : Hp} {b : Addr} (h : H b = none) : nw H H' b = H' b := by unfold nw; rw [h]
theorem nw_same (H H' : Hp) : Same (nw H H') H' := fun b o e => by
  unfold nw at e
  cases h : H b with
  | none => rw [h] at e; exact e
  | some u => rw [h] at e; cases e
/-- without p -/
def del (p : Addr) (H : Hp) : Hp := fun b => if b = p then none else H b
theorem del_ne {p b : Addr} {H : Hp} (h : b ≠ p) : del p H b = H b := if_neg h
theorem del_same (p : Addr) (H : Hp) : Same (del p H) H := fun b o e => by
  unfold del at e
  by_cases h : b = p
  · rw [if_pos h] at e; cases e
  · rw [if_neg h] at e; exact e
theorem del_ex {p : Addr} {H H' : Hp} (x : Ex p H H') : del p H' = del p H := funext fun b => by
  by_cases h : b = p
  · show (if b = p then none else H' b) = if b = p then none else H b; rw [if_pos h, if_pos h]
  · rw [del_ne h, del_ne h, x b h]
theorem del_keep {p : Addr} {H H' : Hp} (k : Keep H H') (hp : ∃ xs, H p = some (.lst xs) ∧ ¬ IsP (.lst xs)) : Keep (del p H) (del p H') := ⟨fun b o n e => by
  by_cases h : b = p
  · have e' : (if b = p then none else H b) = some o := e; rw [if_pos h] at e'; cases e'
  · rw [del_ne h] at e ⊢; exact k.1 b o n e, fun b e => by
  by_cases h : b = p
  · show (if b = p then none else H b) = none; rw [if_pos h]
  · rw [del_ne h] at e ⊢; exact k.2 b e⟩
theorem same_del {p : Addr} {G H : Hp} (s : Same G H) (hp : G p = none) : Same G (del p H) := fun b o e => by
  rw [del_ne (ne_of_none e hp)]; exact s b o e
/-- what a callee has made stands off what stood -/
theorem nw_del {p : Addr} {H H' : Hp} (hp : H p ≠ none) : Same (nw H H') (del p H') := fun b o e => by
  have : b ≠ p := fun z => by
    subst z
    unfold nw at e
    cases h : H b with
    | none => exact hp h
    | some u => rw [h] at e; cases e
  rw [del_ne this]; exact nw_same H H' b o e
/-! ### names and words -/
def sp_law_name : Sp := sp1 fun x H Q _ => ∃ (a c : Addr) (n : Nat), x = .ref a ∧ Pu a c n H ∧ n + 4 ≤ LIM ∧ ∀ l H', Wd l → l.length ≤ 16 → Pu a c (n + 4) H' → Keep H H' → Q (.str (S l)) H'
theorem rep_len (n : Nat) (l : List Nat) : ((List.replicate n l).flatten).length = n * l.length := by
  induction n with
  | zero => simp
  | succ n ih => rw [List.replicate_succ, List.flatten_cons, List.length_append, ih, Nat.succ_mul, Nat.add_comm]
theorem rep_mem {n : Nat} {l : List Nat} {c : Nat} (h : c ∈ (List.replicate n l).flatten) : c ∈ l := by
  obtain ⟨m, hm, hc⟩ := List.mem_flatten.mp h
  rw [List.eq_of_mem_replicate hm] at hc; exact hc
def BW : List (List Nat) := [[98,111,111,107],[108,101,97,110,115],[98,97,115,101],[100,97,116,97],[99,111,110,115,116],[100,101,102,105,110,101],[98,101,103,105,110],[116,104,101,111,114,101,109],[113,101,100]]
def SZ : List Nat := [1, 1, 2, 2, 3, 5, 15, 16]
theorem ok_law_name (T : Txt w K mg) {fd : FuncData} (F : Fn_law_name K fd) (hm : mg "_law_name" = some (.ref (He.ga K "_law_name"))) (c_law_take : CalX P w K mg base CX0 2 "_law_take" sp_law_take) : CalX P w K mg base CX0 3 "_law_name" sp_law_name := by
  refine calx0 (k := 2) F hm sc_law_name (b_law_name F) (fun _ _ _ _ h => sp1_len h) (fun cdv A outer s H vs Q E hr h => ?_)
  obtain ⟨x0, rfl, h⟩ := h
  refine ⟨_, (pss_cons (ps_set (i := 1) sc_law_name.nd rfl (Or.inl rfl) (pe_cx c_law_take hr (by decide) rfl pass0 (pa_cons (pv 0) (pa_cons pe_int pa_nil))))
    (pss_cons (ps_if (pt_cmpR op_eq (pv 1) pe_int (nomark _))
    (pss_cons (ps_set (i := 2) sc_law_name.nd rfl (Or.inl rfl) (pe_lst (pa_cons pe_str (pa_cons pe_str (pa_cons pe_str (pa_cons pe_str (pa_cons pe_str (pa_cons pe_str (pa_cons pe_str (pa_cons pe_str (pa_cons pe_str pa_nil)))))))))))
    (pss_one (ps_ret (pe_ix ix_list (pv 2) (pe_cx c_law_take hr (by decide) rfl pass0 (pa_cons (pv 0) (pa_cons (pe_callB call_lenQ (by rfl) T.f_len PySem.boot_len (pa_cons (pv 2) pa_nil)) pa_nil))) (fun _ _ => rfl)))))
    pss_nil)
    (pss_cons (ps_set (i := 3) sc_law_name.nd rfl (Or.inl rfl) (pe_ix ix_list (pe_lst (pa_cons pe_int (pa_cons pe_int (pa_cons pe_int (pa_cons pe_int (pa_cons pe_int (pa_cons pe_int (pa_cons pe_int (pa_cons pe_int pa_nil))))))))) (pe_op op_subI (pv 1) pe_int) (fun _ _ => rfl)))
    (pss_cons (ps_set (i := 4) sc_law_name.nd rfl (Or.inl rfl) pe_str)
    (pss_cons (ps_set (i := 5) sc_law_name.nd rfl (Or.inl rfl) (pe_ix ix_str (pv 4) (pe_cx c_law_take hr (by decide) rfl pass0 (pa_cons (pv 0) (pa_cons pe_int pa_nil))) (fun _ _ => rfl)))
    (pss_cons (ps_set (i := 6) sc_law_name.nd rfl (Or.inl rfl) (pe_cx c_law_take hr (by decide) rfl pass0 (pa_cons (pv 0) (pa_cons (pv 3) pa_nil))))
    (pss_cons (ps_set (i := 7) sc_law_name.nd rfl (Or.inl rfl) (pe_ix ix_str (pv 4) (pe_cx c_law_take hr (by decide) rfl pass0 (pa_cons (pv 0) (pa_cons (pe_op op_addI pe_int (pe_op op_mulI pe_int (pe_callTy call_intB (by rfl) T.f_int (by decide +kernel) (pa_cons (pe_cmpR op_gtI (pv 6) pe_int (nomark _)) pa_nil)))) pa_nil))) (fun _ _ => rfl)))
    (pss_one (ps_ret (pe_op op_catS (pe_op op_catS (pe_op op_repS (pv 5) (pv 6)) (pv 7)) (pe_op op_repS (pv 5) (pe_op op_subI (pe_op op_subI (pv 3) (pv 6)) pe_int)))))))))))), ?_⟩
  rw [show start ["purse", "choice", "menu", "size", "signs", "fill", "place", "sign"] [x0] = [some x0, none, none, none, none, none, none, none] from rfl]
  have ec0 : Str.ofString "abcdefghijklmnopqrstuvwxyz0123456789_" = S [97,98,99,100,101,102,103,104,105,106,107,108,109,110,111,112,113,114,115,116,117,118,119,120,121,122,48,49,50,51,52,53,54,55,56,57,95] := S_ofs (by decide +kernel)
  have ec1 : Str.ofString "book" = S [98,111,111,107] := S_ofs (by decide +kernel)
  have ec2 : Str.ofString "leans" = S [108,101,97,110,115] := S_ofs (by decide +kernel)
  have ec3 : Str.ofString "base" = S [98,97,115,101] := S_ofs (by decide +kernel)
  have ec4 : Str.ofString "data" = S [100,97,116,97] := S_ofs (by decide +kernel)
  have ec5 : Str.ofString "const" = S [99,111,110,115,116] := S_ofs (by decide +kernel)
  have ec6 : Str.ofString "define" = S [100,101,102,105,110,101] := S_ofs (by decide +kernel)
  have ec7 : Str.ofString "begin" = S [98,101,103,105,110] := S_ofs (by decide +kernel)
  have ec8 : Str.ofString "theorem" = S [116,104,101,111,114,101,109] := S_ofs (by decide +kernel)
  have ec9 : Str.ofString "qed" = S [113,101,100] := S_ofs (by decide +kernel)
  rw [ec0, ec1, ec2, ec3, ec4, ec5, ec6, ec7, ec8, ec9]
  obtain ⟨a, c, n, rfl, hP, hL, hQ⟩ := h
  try dsimp only [cxOf]
  walk_at "w"
  refine ⟨_, _, rfl, a, c, n, 9, rfl, rfl, by omega, by omega, hP, by omega, fun ch H1 hch P1 k1 => ?_⟩
  walk_at "w"
  refine w_dec (fun h1 => ?_) (fun h1 => ?_)
  · walk_at "w"
    refine n_L (fun p H2 hp s2 e2 => ?_)
    walk_at "w"
    refine w_lenL (SqL.of e2) ?_
    walk_at "w"
    refine ⟨_, _, rfl, a, c, n + 1, 9, rfl, rfl, by omega, by omega, P1.same s2, by omega, fun v H3 hv P3 k3 => ?_⟩
    have A : AW (Ws BW) := AW.of (by decide)
    obtain ⟨l, hl, hw⟩ := A.get (i := v) (show v < 9 from hv)
    refine w_ixL (SqL.of (k3.1 _ _ (nip_ws BW) e2)) hl ?_
    have h16 : l.length ≤ 16 := by
      have : ∀ l ∈ BW, l.length ≤ 16 := by decide
      have e := List.getElem?_map (l := BW) (f := fun r => V.str (S r)) (i := v)
      rw [show (BW.map fun r => V.str (S r))[v]? = some (.str (S l)) from hl] at e
      cases q : BW[v]? with
      | none => rw [q] at e; cases e
      | some z => rw [q] at e; have : S l = S z := by injection e with e; injection e
                  rw [SX.S_inj this]; exact (by decide : ∀ l ∈ BW, l.length ≤ 16) z (List.mem_of_getElem? q)
    exact hQ l H3 hw h16 (P3.mono (by omega)) ((k1.same s2).trans k3)
  · walk_at "w"
    refine n_L (fun p H2 hp s2 e2 => ?_)
    walk_at "w"
    have hc8 : ch - 1 < 8 := by omega
    obtain ⟨sz, hsz, h16⟩ : ∃ sz : Nat, SZ[ch - 1]? = some sz ∧ 1 ≤ sz ∧ sz ≤ 16 := ⟨SZ[ch - 1], List.getElem?_eq_getElem hc8, by
      have : ∀ i (h : i < 8), 1 ≤ SZ[i] ∧ SZ[i] ≤ 16 := by decide
      exact this _ hc8⟩
    rw [show (ch : Int) - 1 = ((ch - 1 : Nat) : Int) by omega]
    refine w_ixL (xs := Is SZ) (SqL.of e2) (is_at hsz) ?_
    walk_at "w"
    refine ⟨_, _, rfl, a, c, n + 1, 26, rfl, rfl, by omega, by omega, P1.same s2, by omega, fun v H3 hv P3 k3 => ?_⟩
    have hsg : ∀ c ∈ WS, c ≠ 32 ∧ c ≠ 10 ∧ c < 256 := by decide
    have hv' : v < WS.length := Nat.lt_of_lt_of_le (show v < 26 by omega) (by decide)
    refine w_ixS (l := WS) (szl (by decide : WS.length ≤ 37)) (List.getElem?_eq_getElem hv') ?_
    walk_at "w"
    refine ⟨_, _, rfl, a, c, n + 1 + 1, sz, rfl, rfl, by omega, by omega, P3, by omega, fun pl H4 hpl P4 k4 => ?_⟩
    walk_at "w"
    have hb : ∃ m : Nat, 26 + 11 * (if decide ((0 : Int) < (pl : Int)) = true then (1 : Int) else 0) = (m : Int) ∧ 0 < m ∧ m ≤ 37 := by
      by_cases z : (0 : Int) < (pl : Int)
      · exact ⟨37, by rw [decide_eq_true z]; rfl, by omega, by omega⟩
      · exact ⟨26, by rw [decide_eq_false z]; rfl, by omega, by omega⟩
    refine w_mulI (.inl ⟨by omega, by omega⟩) ?_
    walk_at "w"
    obtain ⟨m, hm, hm1, hm2⟩ := hb
    rw [hm]
    refine ⟨_, _, rfl, a, c, n + 1 + 1 + 1, m, rfl, rfl, by omega, by omega, P4, by omega, fun u H5 hu P5 k5 => ?_⟩
    have hu' : u < WS.length := Nat.lt_of_lt_of_le (show u < 37 by omega) (by decide)
    refine w_ixS (l := WS) (szl (by decide : WS.length ≤ 37)) (List.getElem?_eq_getElem hu') ?_
    walk_at "w"
    refine w_repT (l := [_]) (n := pl) (by show 1 * pl ≤ _; omega) ?_
    walk_at "w"
    have r1 := rep_len pl [WS[v]]
    rw [show [WS[v]].length = 1 from rfl, Nat.mul_one] at r1
    refine w_catT (b := [_]) (szl (show _ + 1 ≤ 100 by rw [r1]; omega)) ?_
    walk_at "w"
    rw [show (sz : Int) - (pl : Int) - 1 = ((sz - pl - 1 : Nat) : Int) by omega]
    refine w_repT (l := [_]) (n := sz - pl - 1) (by show 1 * (sz - pl - 1) ≤ _; omega) ?_
    walk_at "w"
    have r2 := rep_len (sz - pl - 1) [WS[v]]
    rw [show [WS[v]].length = 1 from rfl, Nat.mul_one] at r2
    refine w_catT (szl (show _ ≤ 100 by rw [List.length_append, r1, r2]; show pl + 1 + (sz - pl - 1) ≤ 100; omega)) ?_
    walk_at "w"
    refine hQ _ H5 ⟨?_, ?_, fun c hc => ?_⟩ (by rw [List.length_append, List.length_append, r1, r2]; show pl + 1 + (sz - pl - 1) ≤ 16; omega) P5 (((k1.same s2).trans k3).trans (k4.trans k5))
    · simp
    · rw [List.length_append, List.length_append, r1, r2]; show pl + 1 + (sz - pl - 1) ≤ 40; omega
    · rcases List.mem_append.mp hc with hc | hc
      · rcases List.mem_append.mp hc with hc | hc
        · rw [List.mem_singleton.mp (rep_mem hc)]; exact hsg _ (List.getElem_mem hv')
        · rw [List.mem_singleton.mp hc]; exact hsg _ (List.getElem_mem hu')
      · rw [List.mem_singleton.mp (rep_mem hc)]; exact hsg _ (List.getElem_mem hv')

end
end K36

namespace K36
open PySem PySem.Spec PyProof.Rows L2 SX
local macro_rules | `(tactic| walk_at "w1") => `(tactic| (first
  | with_reducible refine w_seq ?_ | with_reducible refine w_asgN ?_ | with_reducible refine w_c ?_
  | ((with_reducible refine' w_var ?wv ?_); (case wv => exact rfl))
  | with_reducible refine w_op ?_ | with_reducible refine w_un ?_ | with_reducible refine w_next ?_ | with_reducible refine w_brk ?_ | with_reducible refine w_cnt ?_
  | with_reducible refine w_ifS ?_ | with_reducible refine w_if ?_ | with_reducible refine w_test ?_ | with_reducible refine w_tB ?_ | with_reducible refine w_bl ?_ | with_reducible refine w_blI ?_
  | with_reducible refine w_and ?_ | with_reducible refine w_or ?_ | with_reducible refine w_not ?_ | with_reducible refine w_andV ?_ | with_reducible refine w_orV ?_ | with_reducible refine w_notV ?_
  | with_reducible refine w_nil ?_ | with_reducible refine w_cons ?_ | with_reducible refine w_cb ?_ | with_reducible refine w_call ?_ | with_reducible refine w_callS ?_ | with_reducible refine w_chain ?_
  | with_reducible refine w_tupN ?_ | with_reducible refine w_lstN ?_ | with_reducible refine w_sl ?_ | with_reducible refine w_noPart ?_ | with_reducible refine w_part ?_ | with_reducible refine w_partI ?_
  | with_reducible refine w_ret ?_ | with_reducible refine w_retN ?_ | with_reducible refine w_drop ?_ | with_reducible refine w_asg ?_ | with_reducible refine w_gSub ?_
  | ((with_reducible refine' w_aug ?wv ?_); (case wv => exact rfl)) | with_reducible refine w_ipI ?_
  | with_reducible refine w_addI ?_ | with_reducible refine w_subI ?_ | with_reducible refine w_ltI ?_ | with_reducible refine w_leI ?_ | with_reducible refine w_gtI ?_ | with_reducible refine w_geI ?_
  | with_reducible refine w_eqI ?_ | with_reducible refine w_neI ?_ | with_reducible refine w_eqT ?_ | with_reducible refine w_neT ?_ | with_reducible refine w_inS ?_ | with_reducible refine w_ninS ?_
  | with_reducible refine w_absI ?_ | with_reducible refine w_intI ?_ | with_reducible refine w_maxI ?_ | with_reducible refine w_minI ?_
  | with_reducible refine w_for ?_ | with_reducible refine w_iR1 ?_ | with_reducible refine w_iR2 ?_ | with_reducible refine w_iStr ?_ | with_reducible refine w_strI ?_ | with_reducible refine w_iList ?_ | with_reducible refine w_iTup ?_
  | with_reducible refine w_bm ?_ | with_reducible refine w_bm0 ?_ | with_reducible refine w_t ?_ | with_reducible refine w_f ?_ | with_reducible refine w_nt ?_ | with_reducible refine w_nx ?_ | with_reducible refine w_rt ?_ | with_reducible refine w_bk ?_ | with_reducible refine w_ct ?_ | with_reducible refine w_nf ?_ | with_reducible refine w_lc ?_ | with_reducible refine w_yes ?_ | with_reducible refine w_neg ?_ | with_reducible refine w_intB ?_ | with_reducible refine w_fld ?_ | with_reducible refine w_setf ?_ | with_reducible refine w_faug ?_ | with_reducible refine w_meth ?_ | with_reducible refine w_bmS ?_ | with_reducible refine w_start ?_))
local macro_rules | `(tactic| walk_at "w") => `(tactic| (repeat (first | walk_at "w1" | dsimp (config := { proj := false }) only [List.set_cons_zero, List.set_cons_succ])))
section
variable {w : World} {K : PySem.W.Frag} {mg : Str → Option Value} {base : Heap}

def sp_law_odd_word : Sp := sp1 fun x H Q _ => ∃ (a c : Addr) (n : Nat), x = .ref a ∧ Pu a c n H ∧ n + 1 ≤ LIM ∧ ∀ l H', Wd l → Pu a c (n + 1) H' → Keep H H' → Q (.str (S l)) H'
theorem ok_law_odd_word (T : Txt w K mg) {fd : FuncData} (F : Fn_law_odd_word K fd) (hm : mg "_law_odd_word" = some (.ref (He.ga K "_law_odd_word"))) (c_law_take : CalX P w K mg base CX0 2 "_law_take" sp_law_take) : CalX P w K mg base CX0 3 "_law_odd_word" sp_law_odd_word := by
  refine calx0 (k := 2) F hm sc_law_odd_word (b_law_odd_word F) (fun _ _ _ _ h => sp1_len h) (fun cdv A outer s H vs Q E hr h => ?_)
  obtain ⟨x0, rfl, h⟩ := h
  refine ⟨_, (pss_cons (ps_set (i := 1) sc_law_odd_word.nd rfl (Or.inl rfl) (pe_lst (pa_cons pe_str (pa_cons pe_str (pa_cons pe_str (pa_cons pe_str (pa_cons pe_str (pa_cons pe_str (pa_cons pe_str (pa_cons pe_str (pa_cons pe_str (pa_cons pe_str (pa_cons pe_str (pa_cons pe_str (pa_cons pe_str (pa_cons pe_str pa_nil))))))))))))))))
    (pss_cons (ps_set (i := 1) sc_law_odd_word.nd rfl (Or.inl rfl) (pe_op op_cat (pv 1) (pe_lst (pa_cons (pe_op op_repS pe_str pe_int) (pa_cons (pe_op op_catS (pe_op op_repS pe_str pe_int) pe_str) (pa_cons pe_str (pa_cons pe_str (pa_cons pe_str (pa_cons pe_str (pa_cons pe_str (pa_cons pe_str (pa_cons pe_str (pa_cons pe_str (pa_cons pe_str pa_nil))))))))))))))
    (pss_cons (ps_set (i := 1) sc_law_odd_word.nd rfl (Or.inl rfl) (pe_op op_cat (pv 1) (pe_lst (pa_cons pe_str (pa_cons pe_str (pa_cons (pe_op op_repS pe_str pe_int) pa_nil))))))
    (pss_one (ps_ret (pe_ix ix_list (pv 1) (pe_cx c_law_take hr (by decide) rfl pass0 (pa_cons (pv 0) (pa_cons (pe_callB call_lenQ (by rfl) T.f_len PySem.boot_len (pa_cons (pv 1) pa_nil)) pa_nil))) (fun _ _ => rfl))))))), ?_⟩
  rw [show start ["purse", "menu"] [x0] = [some x0, none] from rfl]
  have ec0 : Str.ofString "A" = S [65] := S_ofs (by decide +kernel)
  have ec1 : Str.ofString "aB" = S [97,66] := S_ofs (by decide +kernel)
  have ec2 : Str.ofString "1a" = S [49,97] := S_ofs (by decide +kernel)
  have ec3 : Str.ofString "_a" = S [95,97] := S_ofs (by decide +kernel)
  have ec4 : Str.ofString "a-b" = S [97,45,98] := S_ofs (by decide +kernel)
  have ec5 : Str.ofString "all" = S [97,108,108] := S_ofs (by decide +kernel)
  have ec6 : Str.ofString "some" = S [115,111,109,101] := S_ofs (by decide +kernel)
  have ec7 : Str.ofString "lam" = S [108,97,109] := S_ofs (by decide +kernel)
  have ec8 : Str.ofString "true" = S [116,114,117,101] := S_ofs (by decide +kernel)
  have ec9 : Str.ofString "false" = S [102,97,108,115,101] := S_ofs (by decide +kernel)
  have ec10 : Str.ofString "bool" = S [98,111,111,108] := S_ofs (by decide +kernel)
  have ec11 : Str.ofString "a.b" = S [97,46,98] := S_ofs (by decide +kernel)
  have ec12 : Str.ofString "'a" = S [39,97] := S_ofs (by decide +kernel)
  have ec13 : Str.ofString "a#" = S [97,35] := S_ofs (by decide +kernel)
  have ec14 : Str.ofString "a:" = S [97,58] := S_ofs (by decide +kernel)
  have ec15 : Str.ofString ":" = S [58] := S_ofs (by decide +kernel)
  have ec16 : Str.ofString ":=" = S [58,61] := S_ofs (by decide +kernel)
  have ec17 : Str.ofString "=" = S [61] := S_ofs (by decide +kernel)
  have ec18 : Str.ofString "|" = S [124] := S_ofs (by decide +kernel)
  have ec19 : Str.ofString "qed" = S [113,101,100] := S_ofs (by decide +kernel)
  have ec20 : Str.ofString "#" = S [35] := S_ofs (by decide +kernel)
  have ec21 : Str.ofString "base" = S [98,97,115,101] := S_ofs (by decide +kernel)
  have ec22 : Str.ofString "theorem" = S [116,104,101,111,114,101,109] := S_ofs (by decide +kernel)
  have ec23 : Str.ofString "leans" = S [108,101,97,110,115] := S_ofs (by decide +kernel)
  have ec24 : Str.ofString "(a)" = S [40,97,41] := S_ofs (by decide +kernel)
  have ec25 : Str.ofString "a" = S [97] := S_ofs (by decide +kernel)
  have ec26 : Str.ofString "0" = S [48] := S_ofs (by decide +kernel)
  have ec27 : Str.ofString "b" = S [98] := S_ofs (by decide +kernel)
  rw [ec0, ec1, ec2, ec3, ec4, ec5, ec6, ec7, ec8, ec9, ec10, ec11, ec12, ec13, ec14, ec15, ec16, ec17, ec18, ec19, ec20, ec21, ec22, ec23, ec24, ec25, ec26, ec27]
  obtain ⟨a, c, n, rfl, hP, hL, hQ⟩ := h
  try dsimp only [cxOf]
  walk_at "w"
  refine n_L (fun p1 H1 hp1 s1 e1 => ?_)
  have A1 : AW [.str (S [65]), .str (S [97,66]), .str (S [49,97]), .str (S [95,97]), .str (S [97,45,98]), .str (S [97,108,108]), .str (S [115,111,109,101]), .str (S [108,97,109]), .str (S [116,114,117,101]), .str (S [102,97,108,115,101]), .str (S [98,111,111,108]), .str (S [97,46,98]), .str (S [39,97]), .str (S [97,35])] := (AW.cons (by decide) (AW.cons (by decide) (AW.cons (by decide) (AW.cons (by decide) (AW.cons (by decide) (AW.cons (by decide) (AW.cons (by decide) (AW.cons (by decide) (AW.cons (by decide) (AW.cons (by decide) (AW.cons (by decide) (AW.cons (by decide) (AW.cons (by decide) (AW.cons (by decide) AW.nil))))))))))))))
  walk_at "w"
  refine w_repT (l := [97]) (n := 17) (by decide) ?_
  walk_at "w"
  refine w_repT (l := [98]) (n := 16) (by decide) ?_
  walk_at "w"
  refine w_catT (szl (show (List.replicate 16 [98]).flatten.length + 1 ≤ 100 by decide)) ?_
  walk_at "w"
  refine n_L (fun p2 H2 hp2 s2 e2 => ?_)
  refine n_cat (s2 _ _ e1) e2 (Nat.le_of_ble_eq_true rfl) (fun p3 H3 hp3 s3 e3 => ?_)
  have A3 := A1.append (show AW [.str (S (List.replicate 17 [97]).flatten), .str (S ((List.replicate 16 [98]).flatten ++ [48])), .str (S [97,58]), .str (S [58]), .str (S [58,61]), .str (S [61]), .str (S [124]), .str (S [113,101,100]), .str (S [35]), .str (S [98,97,115,101]), .str (S [116,104,101,111,114,101,109])] from (AW.cons (by decide) (AW.cons (by decide) (AW.cons (by decide) (AW.cons (by decide) (AW.cons (by decide) (AW.cons (by decide) (AW.cons (by decide) (AW.cons (by decide) (AW.cons (by decide) (AW.cons (by decide) (AW.cons (by decide) AW.nil))))))))))))
  walk_at "w"
  refine w_repT (l := [97]) (n := 16) (by decide) ?_
  walk_at "w"
  refine n_L (fun p4 H4 hp4 s4 e4 => ?_)
  refine n_cat (s4 _ _ e3) e4 (Nat.le_of_ble_eq_true rfl) (fun p5 H5 hp5 s5 e5 => ?_)
  have A5 := A3.append (show AW [.str (S [108,101,97,110,115]), .str (S [40,97,41]), .str (S (List.replicate 16 [97]).flatten)] from (AW.cons (by decide) (AW.cons (by decide) (AW.cons (by decide) AW.nil))))
  have sm := (((s1.tr s2).tr s3).tr s4).tr s5
  walk_at "w"
  refine w_lenL (SqL.of e5) ?_
  walk_at "w"
  refine ⟨_, _, rfl, a, c, n, _, rfl, rfl, Nat.le_of_ble_eq_true rfl, Nat.le_of_ble_eq_true rfl, hP.same sm, hL, fun v H6 hv P6 k6 => ?_⟩
  obtain ⟨l, hl, hw⟩ := A5.get hv
  have hns : ∀ xs : List V, AW xs → ¬ IsP (.lst xs) := fun xs h => by
    obtain ⟨ws, rfl, _⟩ := h.words; exact nip_ws ws
  refine w_ixL (SqL.of (k6.1 _ _ (hns _ A5) e5)) hl ?_
  exact hQ l H6 hw P6 (((Keep.refl H).same sm).trans k6)

/-! ### rows -/
theorem pad_of : ∀ (ws : List (List Nat)) (ps : List Nat), ps.length = ws.length → (∀ j p, j + 1 < ws.length → ps[j]? = some p → 1 ≤ p) → PadOk ws ps
  | [], _, _, _ => by simp [PadOk]
  | [w], p :: ps, _, _ => by simp [PadOk]
  | w :: v :: r, p :: ps, hl, h => ⟨h 0 p (by simp) rfl, pad_of (v :: r) ps (by simpa using hl) fun j q hj hq => h (j + 1) q (by simpa using hj) hq⟩
  | [_], [], hl, _ => by simp at hl
  | _ :: _ :: _, [], hl, _ => by simp at hl
theorem Is_app (ps qs : List Nat) : Is ps ++ Is qs = Is (ps ++ qs) := (List.map_append).symm
theorem Is_rep (n p : Nat) : List.replicate n (V.int (p : Int)) = Is (List.replicate n p) := by unfold Is; rw [List.map_replicate]
def sp_law_row : Sp := sp2 fun x y H Q _ => ∃ (a c : Addr) (n m : Nat) , x = .ref a ∧ WL m H y ∧ m ≤ 30 ∧ Pu a c n H ∧ n + 40 ≤ LIM ∧ ∀ v H', Rg m (nw H H') v → Pu a c (n + 40) H' → Keep H H' → Q v H'
theorem ok_law_row (T : Txt w K mg) {fd : FuncData} (F : Fn_law_row K fd) (hm : mg "_law_row" = some (.ref (He.ga K "_law_row"))) (c_law_take : CalX P w K mg base CX0 2 "_law_take" sp_law_take) : CalX P w K mg base CX0 3 "_law_row" sp_law_row := by
  refine calx0 (k := 2) F hm sc_law_row (b_law_row F) (fun _ _ _ _ h => sp2_len h) (fun cdv A outer s H vs Q E hr h => ?_)
  obtain ⟨x0, x1, rfl, h⟩ := h
  refine ⟨_, (pss_cons (ps_set (i := 3) sc_law_row.nd rfl (Or.inl rfl) (pe_op op_cat (pe_op op_cat (pe_lst (pa_cons pe_int pa_nil)) (pe_lc (own := [("word", 2)]) (g := gName 2) (tt := tYes) (by rfl) sc_law_row.nd (pi_list (pe_slice sl_list (pv 1) (po_some pe_int) po_none)) (blkOk_by (own := [("word", 2)]) (N := ["purse", "words", "word", "pads"]) (sc := defScope s_law_row) (by decide +kernel)) (fun _ _ _ _ _ => pg_name (i := 2) sc_law_row.nd rfl (Or.inl rfl)) (fun _ _ _ _ _ => pts_nil) (fun _ _ _ _ _ => pe_int))) (pe_lc (own := [("word", 2)]) (g := gName 2) (tt := tYes) (by rfl) sc_law_row.nd (pi_list (pe_slice sl_list (pv 1) po_none (po_some pe_int))) (blkOk_by (own := [("word", 2)]) (N := ["purse", "words", "word", "pads"]) (sc := defScope s_law_row) (by decide +kernel)) (fun _ _ _ _ _ => pg_name (i := 2) sc_law_row.nd rfl (Or.inl rfl)) (fun _ _ _ _ _ => pts_nil) (fun _ _ _ _ _ => pe_int))))
    (Evl.pss_cut (ps_if (pt_cmpR op_eq (pe_cx c_law_take hr (by decide) rfl pass0 (pa_cons (pv 0) (pa_cons pe_int pa_nil))) pe_int (nomark _))
    (pss_cons (ps_set (i := 3) sc_law_row.nd rfl (Or.inl rfl) (pe_lst (pa_cons (pe_cx c_law_take hr (by decide) rfl pass0 (pa_cons (pv 0) (pa_cons pe_int pa_nil))) pa_nil)))
    (pss_cons (ps_for PassesOwn.never rfl (pi_list (pe_slice sl_list (pv 1) (po_some pe_int) po_none)) (pg_name (i := 2) sc_law_row.nd rfl (Or.inl rfl))
    (pss_one (ps_expr (pe_bm PySem.F.plainAttrs_list PySem.F.slot_list_append PySem.F.type_list_append mt_append (pv 3) (pa_cons (pe_op op_addI pe_int (pe_cx c_law_take hr (by decide) rfl pass0 (pa_cons (pv 0) (pa_cons pe_int pa_nil)))) pa_nil)))))
    (pss_one (ps_for PassesOwn.never rfl (pi_list (pe_slice sl_list (pv 1) po_none (po_some pe_int))) (pg_name (i := 2) sc_law_row.nd rfl (Or.inl rfl))
    (pss_one (ps_expr (pe_bm PySem.F.plainAttrs_list PySem.F.slot_list_append PySem.F.type_list_append mt_append (pv 3) (pa_cons (pe_cx c_law_take hr (by decide) rfl pass0 (pa_cons (pv 0) (pa_cons pe_int pa_nil))) pa_nil))))))))
    pss_nil)
    (pss_one (ps_ret (pe_lst (pa_cons (pe_callTy call_lstQ (by rfl) T.f_list (by decide +kernel) (pa_cons (pv 1) pa_nil)) (pa_cons (pv 3) pa_nil))))))), ?_⟩
  rw [show start ["purse", "words", "word", "pads"] [x0, x1] = [some x0, some x1, none, none] from rfl]
  obtain ⟨a, c, n, m, rfl, ⟨b, ws, rfl, hb, hwl, hwd⟩, hm, hP, hL, hQ⟩ := h
  have hwl' : (Ws ws).length = ws.length := ws_len ws
  try dsimp only [cxOf]
  walk_at "w"
  refine n_L (fun p1 H1 hp1 s1 e1 => ?_)
  walk_at "w"
  refine n_from (a := 1) (SqL.of (s1 _ _ hb)) (fun p2 H2 hp2 s2 e2 => ?_)
  walk_at "w"
  refine w_lstI (SqL.of e2) ?_
  intro D1 hD1
  refine lc_const (SqL.of e2) hD1 (by rw [List.length_drop, hwl']; omega) (fun H3 s3 e3 => ?_)
  refine n_cat (s3 _ _ (s2 _ _ e1)) e3 (show 1 + (List.replicate _ _).length ≤ 100000 by rw [List.length_replicate, List.length_drop, hwl']; omega) (fun p4 H4 hp4 s4 e4 => ?_)
  walk_at "w"
  refine n_to (b := 1) (SqL.of (s4 _ _ (s3 _ _ (s2 _ _ (s1 _ _ hb))))) (fun p5 H5 hp5 s5 e5 => ?_)
  walk_at "w"
  refine w_lstI (SqL.of e5) ?_
  intro D2 hD2
  refine lc_const (SqL.of e5) hD2 (by rw [List.length_take, hwl']; omega) (fun H6 s6 e6 => ?_)
  refine n_cat (s6 _ _ (s5 _ _ e4)) e6 (show ([V.int 0] ++ List.replicate _ _).length + (List.replicate _ _).length ≤ 100000 by rw [List.length_append, List.length_replicate, List.length_replicate, List.length_drop, List.length_take, hwl']; simp; omega) (fun p7 H7 hp7 s7 e7 => ?_)
  have sm := (((((s1.tr s2).tr s3).tr s4).tr s5).tr s6).tr s7
  have e7' : H7 p7 = some (.lst (Is ([0] ++ List.replicate (ws.length - 1) 1 ++ List.replicate (min 1 ws.length) 0))) := by
    rw [e7, List.length_drop, List.length_take, hwl', ← Is_app, ← Is_app, ← Is_rep, ← Is_rep]; rfl
  have k7 : Keep H H7 := (Keep.refl H).same sm
  have b7 := sm _ _ hb
  walk_at "w"
  refine w_mid (fun σ H' => ∃ (q : Addr) (ps : List Nat) (v : Option V), H q = none ∧ σ = [some (.ref a), some (.ref b), v, some (.ref q)] ∧ H' b = some (.lst (Ws ws)) ∧ H' q = some (.lst (Is ps)) ∧ ps.length = ws.length + 1 ∧ (∀ p ∈ ps, p ≤ 10) ∧ (∀ j p, j + 1 < ws.length → (ps.drop 1)[j]? = some p → 1 ≤ p) ∧ Pu a c (n + 40) H' ∧ Keep H H') ?_ ?_
  rotate_left
  · rintro σ H' ⟨q, ps, v, q0, rfl, q1, q2, q3, q4, q5, q6, q7⟩
    walk_at "w"
    refine n_lst (SqL.of q1) (fun l H2 hl s2 e2 => ?_)
    walk_at "w"
    refine n_L (fun r H3 hr s3 e3 => ?_)
    exact hQ _ H3 ⟨(ws, ps), ⟨r, l, q, rfl, by rw [nw_at ((q7.same s2).2 r hr)]; exact e3, by rw [nw_at (q7.2 l hl)]; exact s3 _ _ e2, by rw [nw_at q0]; exact s3 _ _ (s2 _ _ q2)⟩, hwl, hwd, pad_of _ _ (by rw [List.length_drop, q3]; rfl) q5, q3, q4⟩ ((q6.same s2).same s3) ((q7.same s2).same s3)
  walk_at "w"
  refine ⟨_, _, rfl, a, c, n, 3, rfl, rfl, by omega, by omega, hP.same sm, by omega, fun v H8 hv P8 k8 => ?_⟩
  have b8 := k8.1 _ _ (nip_ws ws) b7
  have K8 := k7.trans k8
  walk_at "w"
  refine w_dec (fun h1 => ?_) (fun h1 => ?_)
  rotate_left
  · walk_at "w"
    refine ⟨p7, _, _, ((Keep.refl H).same (((((s1.tr s2).tr s3).tr s4).tr s5).tr s6)).2 p7 hp7, rfl, b8, k8.1 _ _ (nip_is _) e7', ?_, ?_, ?_, P8.mono (by omega), K8⟩
    · simp; omega
    · intro p hp
      simp only [List.mem_append, List.mem_singleton, List.mem_replicate] at hp
      omega
    · intro j p hj hp
      have hp : (List.replicate (ws.length - 1) 1 ++ List.replicate (min 1 ws.length) 0)[j]? = some p := hp
      rw [List.getElem?_append_left (by rw [List.length_replicate]; omega), List.getElem?_replicate, if_pos (by omega)] at hp
      cases hp; exact Nat.le_refl _
  walk_at "w"
  refine ⟨_, _, rfl, a, c, n + 1, 4, rfl, rfl, by omega, by omega, P8, by omega, fun u H9 hu P9 k9 => ?_⟩
  walk_at "w"
  refine n_L (fun pq H10 hpq s10 e10 => ?_)
  have b10 := s10 _ _ (k9.1 _ _ (nip_ws ws) b8)
  have K10 := (K8.trans k9).same s10
  have P10 := P9.same s10
  have hfr : H pq = none := by
    have := (K8.trans k9).2 pq hpq; exact this
  obtain ⟨na, nc⟩ := P9.ne hpq
  have hqb : b ≠ pq := ne_of_none (k9.1 _ _ (nip_ws ws) b8) hpq
  walk_at "w"
  refine n_from (a := 1) (SqL.of b10) (fun p11 H11 hp11 s11 e11 => ?_)
  walk_at "w"
  refine w_lstI (SqL.of e11) ?_
  have hq11 : pq ≠ p11 := ne_of_none e10 hp11
  have hd1 : ((Ws ws).drop 1).length = ws.length - 1 := by rw [List.length_drop, hwl']
  have hnip1 : ¬ IsP (.lst ((Ws ws).drop 1)) := by
    have : (Ws ws).drop 1 = Ws (ws.drop 1) := (List.map_drop ..).symm
    rw [this]; exact nip_ws _
  refine for_list (xs := (Ws ws).drop 1) (fun i σ H' => ∃ (ps : List Nat) (v : Option V), σ = [some (.ref a), some (.ref b), v, some (.ref pq)] ∧ H' b = some (.lst (Ws ws)) ∧ H' p11 = some (.lst ((Ws ws).drop 1)) ∧ H' pq = some (.lst (Is ps)) ∧ ps.length = 1 + i ∧ (∀ p ∈ ps, p ≤ 10) ∧ (∀ (j p : Nat), (ps.drop 1)[j]? = some p → 1 ≤ p) ∧ Pu a c (n + 2 + i) H' ∧ Keep H H')
    ⟨[u], _, rfl, s11 _ _ b10, e11, s11 _ _ e10, rfl, fun p hp => (by rw [List.mem_singleton.mp hp]; omega), fun j p hp => (by rw [show ([u].drop 1)[j]? = none from rfl] at hp; cases hp), P10.same s11, K10.same s11⟩ ?_ ?_ ?_
  · rintro i σ H' hi ⟨ps, v, rfl, q1, q2, q3⟩
    exact SqL.of q2
  · rintro i x σ H' hx ⟨ps, v, rfl, q1, q2, q3, q4, q5, q6, q7, q8⟩
    have hi : i < ws.length - 1 := by rw [← hd1]; exact (List.getElem?_eq_some_iff.mp hx).1
    dsimp only [gName]
    walk_at "w"
    refine n_lTy q3 ?_
    walk_at "w"
    refine ⟨_, _, rfl, a, c, n + 2 + i, 3, rfl, rfl, by omega, by omega, q7, by omega, fun z H2 hz P2 k2 => ?_⟩
    walk_at "w"
    refine n_app (k2.1 _ _ (nip_is _) q3) (by rw [is_len]; omega) (fun H3 e3 x3 => ?_)
    walk_at "w"
    refine ⟨ps ++ [1 + z], _, rfl, ?_, ?_, ?_, ?_, ?_, ?_, ?_, ?_⟩
    · rw [x3 b hqb]; exact k2.1 _ _ (nip_ws ws) q1
    · rw [x3 p11 (Ne.symm hq11)]; exact k2.1 _ _ hnip1 q2
    · rw [e3, ← Is_app]; rfl
    · rw [List.length_append, q4]; rfl
    · intro p hp
      rcases List.mem_append.mp hp with hp | hp
      · exact q5 p hp
      · rw [List.mem_singleton.mp hp]; omega
    · intro j p hp
      rw [List.drop_append_of_le_length (by omega)] at hp
      by_cases hj : j < (ps.drop 1).length
      · rw [List.getElem?_append_left hj] at hp; exact q6 j p hp
      · rw [List.getElem?_append_right (by omega)] at hp
        have : j - (ps.drop 1).length = 0 := by
          by_cases z0 : j - (ps.drop 1).length = 0
          · exact z0
          · rw [List.getElem?_eq_none (show [1 + z].length ≤ j - (ps.drop 1).length by show 1 ≤ j - (ps.drop 1).length; omega)] at hp; cases hp
        rw [this] at hp; cases hp; omega
    · obtain ⟨ns, p1, p2, p3, p4, g1, g2, g3⟩ := P2
      exact ⟨ns, p1, p2, p3, p4, by rw [x3 a na]; exact g1, by rw [x3 c nc]; exact g2, g3⟩
    · refine ⟨fun o z nz e => ?_, fun o e => ?_⟩
      · rw [x3 o (ne_of_none e hfr)]; exact (q8.trans k2).1 o z nz e
      · by_cases z : o = pq
        · rw [z]; exact hfr
        · rw [x3 o z] at e; exact (q8.trans k2).2 o e
  · rintro σ H' ⟨ps, v, rfl, q1, q2, q3, q4, q5, q6, q7, q8⟩
    rw [hd1] at q4 q7
    walk_at "w"
    refine n_to (b := 1) (SqL.of q1) (fun p12 H12 hp12 s12 e12 => ?_)
    walk_at "w"
    refine w_lstI (SqL.of e12) ?_
    have hq12 : pq ≠ p12 := ne_of_none q3 hp12
    have hd2 : ((Ws ws).take 1).length = min 1 ws.length := by rw [List.length_take, hwl']
    have hnip2 : ¬ IsP (.lst ((Ws ws).take 1)) := by
      have : (Ws ws).take 1 = Ws (ws.take 1) := (List.map_take ..).symm
      rw [this]; exact nip_ws _
    refine for_list (xs := (Ws ws).take 1) (fun i σ H' => ∃ (ps : List Nat) (v : Option V), σ = [some (.ref a), some (.ref b), v, some (.ref pq)] ∧ H' b = some (.lst (Ws ws)) ∧ H' p12 = some (.lst ((Ws ws).take 1)) ∧ H' pq = some (.lst (Is ps)) ∧ ps.length = 1 + (ws.length - 1) + i ∧ (∀ p ∈ ps, p ≤ 10) ∧ (∀ j p, j + 1 < ws.length → (ps.drop 1)[j]? = some p → 1 ≤ p) ∧ Pu a c (n + 2 + (ws.length - 1) + i) H' ∧ Keep H H')
      ⟨ps, _, rfl, s12 _ _ q1, e12, s12 _ _ q3, q4, q5, fun j p _ => q6 j p, q7.same s12, q8.same s12⟩ ?_ ?_ ?_
    · rintro i σ H' hi ⟨ps, v, rfl, q1, q2, q3⟩
      exact SqL.of q2
    · rintro i x σ H' hx ⟨ps, v, rfl, q1, q2, q3, q4, q5, q6, q7, q8⟩
      have hi : i < min 1 ws.length := by rw [← hd2]; exact (List.getElem?_eq_some_iff.mp hx).1
      dsimp only [gName]
      walk_at "w"
      refine n_lTy q3 ?_
      walk_at "w"
      refine ⟨_, _, rfl, a, c, n + 2 + (ws.length - 1) + i, 3, rfl, rfl, by omega, by omega, q7, by omega, fun z H2 hz P2 k2 => ?_⟩
      walk_at "w"
      refine n_app (k2.1 _ _ (nip_is _) q3) (by rw [is_len]; omega) (fun H3 e3 x3 => ?_)
      walk_at "w"
      refine ⟨ps ++ [z], _, rfl, ?_, ?_, ?_, ?_, ?_, ?_, ?_, ?_⟩
      · rw [x3 b hqb]; exact k2.1 _ _ (nip_ws ws) q1
      · rw [x3 p12 (Ne.symm hq12)]; exact k2.1 _ _ hnip2 q2
      · rw [e3, ← Is_app]; rfl
      · rw [List.length_append, q4]; rfl
      · intro p hp
        rcases List.mem_append.mp hp with hp | hp
        · exact q5 p hp
        · rw [List.mem_singleton.mp hp]; omega
      · intro j p hj hp
        rw [List.drop_append_of_le_length (by omega)] at hp
        rw [List.getElem?_append_left (by rw [List.length_drop]; omega)] at hp
        exact q6 j p hj hp
      · obtain ⟨ns, p1, p2, p3, p4, g1, g2, g3⟩ := P2
        exact ⟨ns, p1, p2, p3, p4, by rw [x3 a na]; exact g1, by rw [x3 c nc]; exact g2, g3⟩
      · refine ⟨fun o z nz e => ?_, fun o e => ?_⟩
        · rw [x3 o (ne_of_none e hfr)]; exact (q8.trans k2).1 o z nz e
        · by_cases z : o = pq
          · rw [z]; exact hfr
          · rw [x3 o z] at e; exact (q8.trans k2).2 o e
    · rintro σ H' ⟨ps, v, rfl, q1, q2, q3, q4, q5, q6, q7, q8⟩
      rw [hd2] at q4 q7
      walk_at "w"
      exact ⟨pq, ps, _, hfr, rfl, q1, q3, by omega, q5, q6, q7.mono (by omega), q8⟩

end
end K36

namespace K36
open PySem PySem.Spec PyProof.Rows L2 SX
local macro_rules | `(tactic| walk_at "w1") => `(tactic| (first
  | with_reducible refine w_seq ?_ | with_reducible refine w_asgN ?_ | with_reducible refine w_c ?_
  | ((with_reducible refine' w_var ?wv ?_); (case wv => exact rfl))
  | with_reducible refine w_op ?_ | with_reducible refine w_un ?_ | with_reducible refine w_next ?_ | with_reducible refine w_brk ?_ | with_reducible refine w_cnt ?_
  | with_reducible refine w_ifS ?_ | with_reducible refine w_if ?_ | with_reducible refine w_test ?_ | with_reducible refine w_tB ?_ | with_reducible refine w_bl ?_ | with_reducible refine w_blI ?_
  | with_reducible refine w_and ?_ | with_reducible refine w_or ?_ | with_reducible refine w_not ?_ | with_reducible refine w_andV ?_ | with_reducible refine w_orV ?_ | with_reducible refine w_notV ?_
  | with_reducible refine w_nil ?_ | with_reducible refine w_cons ?_ | with_reducible refine w_cb ?_ | with_reducible refine w_call ?_ | with_reducible refine w_callS ?_ | with_reducible refine w_chain ?_
  | with_reducible refine w_tupN ?_ | with_reducible refine w_lstN ?_ | with_reducible refine w_sl ?_ | with_reducible refine w_noPart ?_ | with_reducible refine w_part ?_ | with_reducible refine w_partI ?_
  | with_reducible refine w_ret ?_ | with_reducible refine w_retN ?_ | with_reducible refine w_drop ?_ | with_reducible refine w_asg ?_ | with_reducible refine w_gSub ?_
  | ((with_reducible refine' w_aug ?wv ?_); (case wv => exact rfl)) | with_reducible refine w_ipI ?_
  | with_reducible refine w_addI ?_ | with_reducible refine w_subI ?_ | with_reducible refine w_ltI ?_ | with_reducible refine w_leI ?_ | with_reducible refine w_gtI ?_ | with_reducible refine w_geI ?_
  | with_reducible refine w_eqI ?_ | with_reducible refine w_neI ?_ | with_reducible refine w_eqT ?_ | with_reducible refine w_neT ?_ | with_reducible refine w_inS ?_ | with_reducible refine w_ninS ?_
  | with_reducible refine w_absI ?_ | with_reducible refine w_intI ?_ | with_reducible refine w_maxI ?_ | with_reducible refine w_minI ?_
  | with_reducible refine w_for ?_ | with_reducible refine w_iR1 ?_ | with_reducible refine w_iR2 ?_ | with_reducible refine w_iStr ?_ | with_reducible refine w_strI ?_ | with_reducible refine w_iList ?_ | with_reducible refine w_iTup ?_
  | with_reducible refine w_bm ?_ | with_reducible refine w_bm0 ?_ | with_reducible refine w_t ?_ | with_reducible refine w_f ?_ | with_reducible refine w_nt ?_ | with_reducible refine w_nx ?_ | with_reducible refine w_rt ?_ | with_reducible refine w_bk ?_ | with_reducible refine w_ct ?_ | with_reducible refine w_nf ?_ | with_reducible refine w_lc ?_ | with_reducible refine w_yes ?_ | with_reducible refine w_neg ?_ | with_reducible refine w_intB ?_ | with_reducible refine w_fld ?_ | with_reducible refine w_setf ?_ | with_reducible refine w_faug ?_ | with_reducible refine w_meth ?_ | with_reducible refine w_bmS ?_ | with_reducible refine w_start ?_))
local macro_rules | `(tactic| walk_at "w") => `(tactic| (repeat (first | walk_at "w1" | dsimp (config := { proj := false }) only [List.set_cons_zero, List.set_cons_succ])))
section
variable {w : World} {K : PySem.W.Frag} {mg : Str → Option Value} {base : Heap}

def sp_law_tactic : Sp := sp1 fun x H Q _ => ∃ (a c : Addr) (n : Nat), x = .ref a ∧ Pu a c n H ∧ n + 1 ≤ LIM ∧ ∀ v H', WL 6 H' v → Pu a c (n + 1) H' → Keep H H' → Q v H'
theorem ok_law_tactic (T : Txt w K mg) {fd : FuncData} (F : Fn_law_tactic K fd) (hm : mg "_law_tactic" = some (.ref (He.ga K "_law_tactic"))) (c_law_take : CalX P w K mg base CX0 2 "_law_take" sp_law_take) : CalX P w K mg base CX0 3 "_law_tactic" sp_law_tactic := by
  refine calx0 (k := 2) F hm sc_law_tactic (b_law_tactic F) (fun _ _ _ _ h => sp1_len h) (fun cdv A outer s H vs Q E hr h => ?_)
  obtain ⟨x0, rfl, h⟩ := h
  refine ⟨_, (pss_cons (ps_set (i := 1) sc_law_tactic.nd rfl (Or.inl rfl) (pe_lst (pa_cons (pe_lst (pa_cons pe_str pa_nil)) (pa_cons (pe_lst (pa_cons pe_str (pa_cons pe_str pa_nil))) (pa_cons (pe_lst (pa_cons pe_str (pa_cons pe_str pa_nil))) (pa_cons (pe_lst (pa_cons pe_str pa_nil)) (pa_cons (pe_lst (pa_cons pe_str (pa_cons pe_str (pa_cons pe_str (pa_cons pe_str pa_nil))))) pa_nil)))))))
    (pss_cons (ps_set (i := 1) sc_law_tactic.nd rfl (Or.inl rfl) (pe_op op_cat (pv 1) (pe_lst (pa_cons (pe_lst (pa_cons pe_str (pa_cons pe_str pa_nil))) (pa_cons (pe_lst (pa_cons pe_str (pa_cons pe_str pa_nil))) (pa_cons (pe_lst (pa_cons pe_str (pa_cons pe_str pa_nil))) (pa_cons (pe_lst (pa_cons pe_str (pa_cons pe_str pa_nil))) (pa_cons (pe_lst (pa_cons pe_str pa_nil)) (pa_cons (pe_lst (pa_cons pe_str (pa_cons pe_str pa_nil))) pa_nil)))))))))
    (pss_cons (ps_set (i := 1) sc_law_tactic.nd rfl (Or.inl rfl) (pe_op op_cat (pv 1) (pe_lst (pa_cons (pe_lst (pa_cons pe_str (pa_cons pe_str (pa_cons pe_str (pa_cons pe_str pa_nil))))) pa_nil))))
    (pss_one (ps_ret (pe_ix ix_list (pv 1) (pe_cx c_law_take hr (by decide) rfl pass0 (pa_cons (pv 0) (pa_cons (pe_callB call_lenQ (by rfl) T.f_len PySem.boot_len (pa_cons (pv 1) pa_nil)) pa_nil))) (fun _ _ => rfl))))))), ?_⟩
  rw [show start ["purse", "menu"] [x0] = [some x0, none] from rfl]
  have ec0 : Str.ofString "split" = S [115,112,108,105,116] := S_ofs (by decide +kernel)
  have ec1 : Str.ofString "intro" = S [105,110,116,114,111] := S_ofs (by decide +kernel)
  have ec2 : Str.ofString "h" = S [104] := S_ofs (by decide +kernel)
  have ec3 : Str.ofString "qed" = S [113,101,100] := S_ofs (by decide +kernel)
  have ec4 : Str.ofString "now" = S [110,111,119] := S_ofs (by decide +kernel)
  have ec5 : Str.ofString "Qed" = S [81,101,100] := S_ofs (by decide +kernel)
  have ec6 : Str.ofString "theorem" = S [116,104,101,111,114,101,109] := S_ofs (by decide +kernel)
  have ec7 : Str.ofString "t" = S [116] := S_ofs (by decide +kernel)
  have ec8 : Str.ofString ":" = S [58] := S_ofs (by decide +kernel)
  have ec9 : Str.ofString "true" = S [116,114,117,101] := S_ofs (by decide +kernel)
  have ec10 : Str.ofString "base" = S [98,97,115,101] := S_ofs (by decide +kernel)
  have ec11 : Str.ofString "a" = S [97] := S_ofs (by decide +kernel)
  have ec12 : Str.ofString "book" = S [98,111,111,107] := S_ofs (by decide +kernel)
  have ec13 : Str.ofString "b" = S [98] := S_ofs (by decide +kernel)
  have ec14 : Str.ofString "leans" = S [108,101,97,110,115] := S_ofs (by decide +kernel)
  have ec15 : Str.ofString "exact" = S [101,120,97,99,116] := S_ofs (by decide +kernel)
  have ec16 : Str.ofString "qed." = S [113,101,100,46] := S_ofs (by decide +kernel)
  have ec17 : Str.ofString "#" = S [35] := S_ofs (by decide +kernel)
  have ec18 : Str.ofString "calc" = S [99,97,108,99] := S_ofs (by decide +kernel)
  have ec19 : Str.ofString "x" = S [120] := S_ofs (by decide +kernel)
  have ec20 : Str.ofString ";" = S [59] := S_ofs (by decide +kernel)
  have ec21 : Str.ofString "y" = S [121] := S_ofs (by decide +kernel)
  rw [ec0, ec1, ec2, ec3, ec4, ec5, ec6, ec7, ec8, ec9, ec10, ec11, ec12, ec13, ec14, ec15, ec16, ec17, ec18, ec19, ec20, ec21]
  obtain ⟨a, c, n, rfl, hP, hL, hQ⟩ := h
  try dsimp only [cxOf]
  walk_at "w"
  refine n_L (fun b1 G1 hb1 s1 e1 => ?_)
  have A1 := WA.snoc (m := 6) (WA.nil 6 H) s1 e1 (show AW [.str (S [115,112,108,105,116])] from (AW.cons (by decide) (AW.nil))) (Nat.le_of_ble_eq_true rfl)
  walk_at "w"
  refine n_L (fun b2 G2 hb2 s2 e2 => ?_)
  have A2 := WA.snoc (m := 6) A1 s2 e2 (show AW [.str (S [105,110,116,114,111]), .str (S [104])] from (AW.cons (by decide) (AW.cons (by decide) (AW.nil)))) (Nat.le_of_ble_eq_true rfl)
  walk_at "w"
  refine n_L (fun b3 G3 hb3 s3 e3 => ?_)
  have A3 := WA.snoc (m := 6) A2 s3 e3 (show AW [.str (S [113,101,100]), .str (S [110,111,119])] from (AW.cons (by decide) (AW.cons (by decide) (AW.nil)))) (Nat.le_of_ble_eq_true rfl)
  walk_at "w"
  refine n_L (fun b4 G4 hb4 s4 e4 => ?_)
  have A4 := WA.snoc (m := 6) A3 s4 e4 (show AW [.str (S [81,101,100])] from (AW.cons (by decide) (AW.nil))) (Nat.le_of_ble_eq_true rfl)
  walk_at "w"
  refine n_L (fun b5 G5 hb5 s5 e5 => ?_)
  have A5 := WA.snoc (m := 6) A4 s5 e5 (show AW [.str (S [116,104,101,111,114,101,109]), .str (S [116]), .str (S [58]), .str (S [116,114,117,101])] from (AW.cons (by decide) (AW.cons (by decide) (AW.cons (by decide) (AW.cons (by decide) (AW.nil)))))) (Nat.le_of_ble_eq_true rfl)
  walk_at "w"
  refine n_L (fun b6 G6 hb6 s6 e6 => ?_)
  have A6 := WA.same A5 s6
  walk_at "w"
  refine n_L (fun b7 G7 hb7 s7 e7 => ?_)
  have A7 := WA.snoc (m := 6) (WA.nil 6 G6) s7 e7 (show AW [.str (S [98,97,115,101]), .str (S [97])] from (AW.cons (by decide) (AW.cons (by decide) (AW.nil)))) (Nat.le_of_ble_eq_true rfl)
  walk_at "w"
  refine n_L (fun b8 G8 hb8 s8 e8 => ?_)
  have A8 := WA.snoc (m := 6) A7 s8 e8 (show AW [.str (S [98,111,111,107]), .str (S [98])] from (AW.cons (by decide) (AW.cons (by decide) (AW.nil)))) (Nat.le_of_ble_eq_true rfl)
  walk_at "w"
  refine n_L (fun b9 G9 hb9 s9 e9 => ?_)
  have A9 := WA.snoc (m := 6) A8 s9 e9 (show AW [.str (S [108,101,97,110,115]), .str (S [98])] from (AW.cons (by decide) (AW.cons (by decide) (AW.nil)))) (Nat.le_of_ble_eq_true rfl)
  walk_at "w"
  refine n_L (fun b10 G10 hb10 s10 e10 => ?_)
  have A10 := WA.snoc (m := 6) A9 s10 e10 (show AW [.str (S [101,120,97,99,116]), .str (S [104])] from (AW.cons (by decide) (AW.cons (by decide) (AW.nil)))) (Nat.le_of_ble_eq_true rfl)
  walk_at "w"
  refine n_L (fun b11 G11 hb11 s11 e11 => ?_)
  have A11 := WA.snoc (m := 6) A10 s11 e11 (show AW [.str (S [113,101,100,46])] from (AW.cons (by decide) (AW.nil))) (Nat.le_of_ble_eq_true rfl)
  walk_at "w"
  refine n_L (fun b12 G12 hb12 s12 e12 => ?_)
  have A12 := WA.snoc (m := 6) A11 s12 e12 (show AW [.str (S [101,120,97,99,116]), .str (S [35])] from (AW.cons (by decide) (AW.cons (by decide) (AW.nil)))) (Nat.le_of_ble_eq_true rfl)
  walk_at "w"
  refine n_L (fun b13 G13 hb13 s13 e13 => ?_)
  have A13 := WA.same A12 s13
  refine n_cat (((((((s7.tr s8).tr s9).tr s10).tr s11).tr s12).tr s13) _ _ e6) e13 (Nat.le_of_ble_eq_true rfl) (fun b14 G14 hb14 s14 e14 => ?_)
  have A14 := WA.same (WA.append (WA.same A6 ((((((s7.tr s8).tr s9).tr s10).tr s11).tr s12).tr s13)) A13) s14
  walk_at "w"
  refine n_L (fun b15 G15 hb15 s15 e15 => ?_)
  have A15 := WA.snoc (m := 6) (WA.nil 6 G14) s15 e15 (show AW [.str (S [99,97,108,99]), .str (S [120]), .str (S [59]), .str (S [121])] from (AW.cons (by decide) (AW.cons (by decide) (AW.cons (by decide) (AW.cons (by decide) (AW.nil)))))) (Nat.le_of_ble_eq_true rfl)
  walk_at "w"
  refine n_L (fun b16 G16 hb16 s16 e16 => ?_)
  have A16 := WA.same A15 s16
  refine n_cat ((s15.tr s16) _ _ e14) e16 (Nat.le_of_ble_eq_true rfl) (fun b17 G17 hb17 s17 e17 => ?_)
  have A17 := WA.same (WA.append (WA.same A14 (s15.tr s16)) A16) s17
  walk_at "w"
  have sm := ((((((((((((((((s1.tr s2).tr s3).tr s4).tr s5).tr s6).tr s7).tr s8).tr s9).tr s10).tr s11).tr s12).tr s13).tr s14).tr s15).tr s16).tr s17)
  refine w_lenL (SqL.of e17) ?_
  walk_at "w"
  refine ⟨_, _, rfl, a, c, n, _, rfl, rfl, Nat.le_of_ble_eq_true rfl, Nat.le_of_ble_eq_true rfl, hP.same sm, hL, fun v H6 hv P6 k6 => ?_⟩
  obtain ⟨l, hl, hw⟩ := A17.get hv
  refine w_ixL (SqL.of (k6.1 _ _ (nip_refs A17.refs) e17)) hl ?_
  exact hQ l H6 (hw.keep k6) P6 (((Keep.refl H).same sm).trans k6)

def sp_law_body : Sp := sp1 fun x H Q _ => ∃ (a c : Addr) (n : Nat), x = .ref a ∧ Pu a c n H ∧ n + 10 ≤ LIM ∧ ∀ v H' (xs : List V), H' v = some (.lst xs) → AW xs → xs.length ≤ 5 → 1 ≤ xs.length → Pu a c (n + 10) H' → Keep H H' → Q (.ref v) H'
theorem AW.nip {xs : List V} (h : AW xs) : ¬ IsP (.lst xs) := by
  obtain ⟨ws, rfl, _⟩ := h.words; exact nip_ws ws
/-- a local list changes -/
theorem Keep.ex {H H1 H2 : Hp} {p : Addr} (k : Keep H H1) (hp : H p = none) (x : Ex p H1 H2) : Keep H H2 := ⟨fun o z nz e => by
  rw [x o (ne_of_none e hp)]; exact k.1 o z nz e, fun o e => by
  by_cases z : o = p
  · rw [z]; exact hp
  · rw [x o z] at e; exact k.2 o e⟩
theorem Pu.ex {H1 H2 : Hp} {a c p : Addr} {n : Nat} (h : Pu a c n H1) (na : a ≠ p) (nc : c ≠ p) (x : Ex p H1 H2) : Pu a c n H2 := by
  obtain ⟨ns, p1, p2, p3, p4, g1, g2, g3⟩ := h
  exact ⟨ns, p1, p2, p3, p4, by rw [x a na]; exact g1, by rw [x c nc]; exact g2, g3⟩
theorem ok_law_body (T : Txt w K mg) {fd : FuncData} (F : Fn_law_body K fd) (hm : mg "_law_body" = some (.ref (He.ga K "_law_body"))) (c_law_take : CalX P w K mg base CX0 2 "_law_take" sp_law_take) : CalX P w K mg base CX0 3 "_law_body" sp_law_body := by
  refine calx0 (k := 2) F hm sc_law_body (b_law_body F) (fun _ _ _ _ h => sp1_len h) (fun cdv A outer s H vs Q E hr h => ?_)
  obtain ⟨x0, rfl, h⟩ := h
  refine ⟨_, (pss_cons (ps_set (i := 1) sc_law_body.nd rfl (Or.inl rfl) (pe_lst (pa_cons pe_str (pa_cons pe_str (pa_cons pe_str (pa_cons pe_str (pa_cons pe_str (pa_cons pe_str (pa_cons pe_str (pa_cons pe_str (pa_cons pe_str (pa_cons pe_str (pa_cons pe_str (pa_cons pe_str (pa_cons pe_str (pa_cons pe_str (pa_cons pe_str pa_nil)))))))))))))))))
    (pss_cons (ps_set (i := 2) sc_law_body.nd rfl (Or.inl rfl) (pe_lst pa_nil))
    (pss_cons (ps_for PassesOwn.never rfl (pi_range1 (by rfl) T.f_range (pa_cons (pe_op op_addI pe_int (pe_cx c_law_take hr (by decide) rfl pass0 (pa_cons (pv 0) (pa_cons pe_int pa_nil)))) pa_nil)) (pg_name (i := 3) sc_law_body.nd rfl (Or.inl rfl))
    (pss_one (ps_expr (pe_bm PySem.F.plainAttrs_list PySem.F.slot_list_append PySem.F.type_list_append mt_append (pv 2) (pa_cons (pe_ix ix_list (pv 1) (pe_cx c_law_take hr (by decide) rfl pass0 (pa_cons (pv 0) (pa_cons (pe_callB call_lenQ (by rfl) T.f_len PySem.boot_len (pa_cons (pv 1) pa_nil)) pa_nil))) (fun _ _ => rfl)) pa_nil)))))
    (pss_one (ps_ret (pv 2)))))), ?_⟩
  rw [show start ["purse", "menu", "words", "k"] [x0] = [some x0, none, none, none] from rfl]
  have ec0 : Str.ofString ":" = S [58] := S_ofs (by decide +kernel)
  have ec1 : Str.ofString ":=" = S [58,61] := S_ofs (by decide +kernel)
  have ec2 : Str.ofString "=" = S [61] := S_ofs (by decide +kernel)
  have ec3 : Str.ofString "|" = S [124] := S_ofs (by decide +kernel)
  have ec4 : Str.ofString "all" = S [97,108,108] := S_ofs (by decide +kernel)
  have ec5 : Str.ofString "x" = S [120] := S_ofs (by decide +kernel)
  have ec6 : Str.ofString "nat." = S [110,97,116,46] := S_ofs (by decide +kernel)
  have ec7 : Str.ofString "(x" = S [40,120] := S_ofs (by decide +kernel)
  have ec8 : Str.ofString "=>" = S [61,62] := S_ofs (by decide +kernel)
  have ec9 : Str.ofString "qed" = S [113,101,100] := S_ofs (by decide +kernel)
  have ec10 : Str.ofString "#" = S [35] := S_ofs (by decide +kernel)
  have ec11 : Str.ofString "'k" = S [39,107] := S_ofs (by decide +kernel)
  have ec12 : Str.ofString "bool" = S [98,111,111,108] := S_ofs (by decide +kernel)
  have ec13 : Str.ofString "~" = S [126] := S_ofs (by decide +kernel)
  have ec14 : Str.ofString "A" = S [65] := S_ofs (by decide +kernel)
  rw [ec0, ec1, ec2, ec3, ec4, ec5, ec6, ec7, ec8, ec9, ec10, ec11, ec12, ec13, ec14]
  obtain ⟨a, c, n, rfl, hP, hL, hQ⟩ := h
  try dsimp only [cxOf]
  walk_at "w"
  refine n_L (fun p1 H1 hp1 s1 e1 => ?_)
  have A1 : AW (Ws [[58], [58,61], [61], [124], [97,108,108], [120], [110,97,116,46], [40,120], [61,62], [113,101,100], [35], [39,107], [98,111,111,108], [126], [65]]) := AW.of (by decide)
  walk_at "w"
  refine n_L (fun p2 H2 hp2 s2 e2 => ?_)
  have sm := s1.tr s2
  have P2 := hP.same sm
  obtain ⟨na, nc⟩ := (hP.same s1).ne hp2
  have hfr : H p2 = none := ((Keep.refl H).same s1).2 p2 hp2
  have h12 : p1 ≠ p2 := ne_of_none e1 hp2
  walk_at "w"
  refine ⟨_, _, rfl, a, c, n, 5, rfl, rfl, by omega, by omega, P2, by omega, fun u H3 hu P3 k3 => ?_⟩
  walk_at "w"
  refine w_rg1 (by omega) (by omega) ?_
  refine for_range (fun i σ H' => ∃ (xs : List V) (v : Option V), σ = [some (.ref a), some (.ref p1), some (.ref p2), v] ∧ H' p1 = some (.lst (Ws [[58], [58,61], [61], [124], [97,108,108], [120], [110,97,116,46], [40,120], [61,62], [113,101,100], [35], [39,107], [98,111,111,108], [126], [65]])) ∧ H' p2 = some (.lst xs) ∧ AW xs ∧ xs.length = i ∧ Pu a c (n + 1 + i) H' ∧ Keep H H') ⟨[], _, rfl, k3.1 _ _ A1.nip (s2 _ _ e1), k3.1 _ _ AW.nil.nip e2, AW.nil, rfl, P3, (((Keep.refl H).same sm).trans k3)⟩ ?_ ?_
  · rintro i σ H' hi ⟨xs, v, rfl, q1, q2, q3, q4, q5, q6⟩
    have hi : i < 5 := by omega
    dsimp only [gName]
    walk_at "w"
    refine n_lTy q2 ?_
    walk_at "w"
    refine w_lenL (SqL.of q1) ?_
    walk_at "w"
    refine ⟨_, _, rfl, a, c, n + 1 + i, _, rfl, rfl, Nat.le_of_ble_eq_true rfl, Nat.le_of_ble_eq_true rfl, q5, by omega, fun z H4 hz P4 k4 => ?_⟩
    obtain ⟨l, hl, hw⟩ := A1.get hz
    refine w_ixL (SqL.of (k4.1 _ _ A1.nip q1)) hl ?_
    walk_at "w"
    refine n_app (k4.1 _ _ q3.nip q2) (by omega) (fun H5 e5 x5 => ?_)
    walk_at "w"
    exact ⟨_, _, rfl, by rw [x5 p1 h12]; exact k4.1 _ _ A1.nip q1, e5, q3.append (AW.cons hw AW.nil), by rw [List.length_append, q4]; rfl, P4.ex na nc x5, (q6.trans k4).ex hfr x5⟩
  · rintro σ H' ⟨xs, v, rfl, q1, q2, q3, q4, q5, q6⟩
    walk_at "w"
    exact hQ p2 H' xs q2 q3 (by omega) (by omega) (q5.mono (by omega)) q6

def sp_law_remarks : Sp := sp1 fun x H Q _ => ∃ (a c : Addr) (n : Nat), x = .ref a ∧ Pu a c n H ∧ n + 100 ≤ LIM ∧ ∀ v H' (xs : List V), H' v = some (.lst xs) → RA 6 H' xs → xs.length ≤ 2 → Pu a c (n + 100) H' → Keep H H' → Q (.ref v) H'
theorem ok_law_remarks (T : Txt w K mg) {fd : FuncData} (F : Fn_law_remarks K fd) (hm : mg "_law_remarks" = some (.ref (He.ga K "_law_remarks"))) (c_law_take : CalX P w K mg base CX0 2 "_law_take" sp_law_take) (c_law_row : CalX P w K mg base CX0 3 "_law_row" sp_law_row) : CalX P w K mg base CX0 4 "_law_remarks" sp_law_remarks := by
  refine calx0 (k := 3) F hm sc_law_remarks (b_law_remarks F) (fun _ _ _ _ h => sp1_len h) (fun cdv A outer s H vs Q E hr h => ?_)
  obtain ⟨x0, rfl, h⟩ := h
  refine ⟨_, (pss_cons (ps_set (i := 1) sc_law_remarks.nd rfl (Or.inl rfl) (pe_lst (pa_cons (pe_lst pa_nil) (pa_cons (pe_lst pa_nil) (pa_cons (pe_lst (pa_cons pe_str pa_nil)) (pa_cons (pe_lst (pa_cons pe_str (pa_cons pe_str pa_nil))) (pa_cons (pe_lst (pa_cons pe_str pa_nil)) (pa_cons (pe_lst (pa_cons pe_str (pa_cons pe_str (pa_cons pe_str pa_nil)))) (pa_cons (pe_lst (pa_cons pe_str (pa_cons pe_str pa_nil))) pa_nil)))))))))
    (pss_cons (ps_set (i := 2) sc_law_remarks.nd rfl (Or.inl rfl) (pe_lst pa_nil))
    (pss_cons (ps_for PassesOwn.never rfl (pi_range1 (by rfl) T.f_range (pa_cons (pe_ix ix_list (pe_lst (pa_cons pe_int (pa_cons pe_int (pa_cons pe_int (pa_cons pe_int (pa_cons pe_int (pa_cons pe_int pa_nil))))))) (pe_cx c_law_take hr (by decide) rfl pass0 (pa_cons (pv 0) (pa_cons pe_int pa_nil))) (fun _ _ => rfl)) pa_nil)) (pg_name (i := 3) sc_law_remarks.nd rfl (Or.inl rfl))
    (pss_one (ps_expr (pe_bm PySem.F.plainAttrs_list PySem.F.slot_list_append PySem.F.type_list_append mt_append (pv 2) (pa_cons (pe_cx c_law_row hr (by decide) rfl pass0 (pa_cons (pv 0) (pa_cons (pe_ix ix_list (pv 1) (pe_cx c_law_take hr (by decide) rfl pass0 (pa_cons (pv 0) (pa_cons (pe_callB call_lenQ (by rfl) T.f_len PySem.boot_len (pa_cons (pv 1) pa_nil)) pa_nil))) (fun _ _ => rfl)) pa_nil))) pa_nil)))))
    (pss_one (ps_ret (pv 2)))))), ?_⟩
  rw [show start ["purse", "menu", "rows", "k"] [x0] = [some x0, none, none, none] from rfl]
  have ec0 : Str.ofString "#" = S [35] := S_ofs (by decide +kernel)
  have ec1 : Str.ofString "qed" = S [113,101,100] := S_ofs (by decide +kernel)
  have ec2 : Str.ofString "#qed" = S [35,113,101,100] := S_ofs (by decide +kernel)
  have ec3 : Str.ofString "##" = S [35,35] := S_ofs (by decide +kernel)
  have ec4 : Str.ofString "book" = S [98,111,111,107] := S_ofs (by decide +kernel)
  have ec5 : Str.ofString "a" = S [97] := S_ofs (by decide +kernel)
  have ec6 : Str.ofString "#base" = S [35,98,97,115,101] := S_ofs (by decide +kernel)
  rw [ec0, ec1, ec2, ec3, ec4, ec5, ec6]
  obtain ⟨a, c, n, rfl, hP, hL, hQ⟩ := h
  try dsimp only [cxOf]
  walk_at "w"
  refine n_L (fun b1 G1 hb1 s1 e1 => ?_)
  have A1 := WA.snoc (m := 6) (WA.nil 6 H) s1 e1 (show AW [] from (AW.nil)) (Nat.le_of_ble_eq_true rfl)
  walk_at "w"
  refine n_L (fun b2 G2 hb2 s2 e2 => ?_)
  have A2 := WA.snoc (m := 6) A1 s2 e2 (show AW [] from (AW.nil)) (Nat.le_of_ble_eq_true rfl)
  walk_at "w"
  refine n_L (fun b3 G3 hb3 s3 e3 => ?_)
  have A3 := WA.snoc (m := 6) A2 s3 e3 (show AW [.str (S [35])] from (AW.cons (by decide) (AW.nil))) (Nat.le_of_ble_eq_true rfl)
  walk_at "w"
  refine n_L (fun b4 G4 hb4 s4 e4 => ?_)
  have A4 := WA.snoc (m := 6) A3 s4 e4 (show AW [.str (S [35]), .str (S [113,101,100])] from (AW.cons (by decide) (AW.cons (by decide) (AW.nil)))) (Nat.le_of_ble_eq_true rfl)
  walk_at "w"
  refine n_L (fun b5 G5 hb5 s5 e5 => ?_)
  have A5 := WA.snoc (m := 6) A4 s5 e5 (show AW [.str (S [35,113,101,100])] from (AW.cons (by decide) (AW.nil))) (Nat.le_of_ble_eq_true rfl)
  walk_at "w"
  refine n_L (fun b6 G6 hb6 s6 e6 => ?_)
  have A6 := WA.snoc (m := 6) A5 s6 e6 (show AW [.str (S [35,35]), .str (S [98,111,111,107]), .str (S [97])] from (AW.cons (by decide) (AW.cons (by decide) (AW.cons (by decide) (AW.nil))))) (Nat.le_of_ble_eq_true rfl)
  walk_at "w"
  refine n_L (fun b7 G7 hb7 s7 e7 => ?_)
  have A7 := WA.snoc (m := 6) A6 s7 e7 (show AW [.str (S [35,98,97,115,101]), .str (S [97])] from (AW.cons (by decide) (AW.cons (by decide) (AW.nil)))) (Nat.le_of_ble_eq_true rfl)
  walk_at "w"
  refine n_L (fun b8 G8 hb8 s8 e8 => ?_)
  have A8 := WA.same A7 s8
  walk_at "w"
  have sm0 := (((((((s1.tr s2).tr s3).tr s4).tr s5).tr s6).tr s7).tr s8)
  refine n_L (fun p2 H2 hp2 s2' e2' => ?_)
  have sm := sm0.tr s2'
  have A := A8.same s2'
  have A' := A8.same (same_del s2' hp2)
  have em := s2' _ _ e8
  have P2 := hP.same sm
  obtain ⟨na, nc⟩ := (hP.same sm0).ne hp2
  have hfr : H p2 = none := ((Keep.refl H).same sm0).2 p2 hp2
  have h12 : b8 ≠ p2 := ne_of_none e8 hp2
  generalize b8 = bm at em h12 ⊢
  walk_at "w"
  refine n_L (fun p3 H3 hp3 s3' e3' => ?_)
  walk_at "w"
  refine ⟨_, _, rfl, a, c, n, 6, rfl, rfl, by omega, by omega, P2.same s3', by omega, fun u H4 hu P4 k4 => ?_⟩
  obtain ⟨m, hm1, hm2⟩ : ∃ m : Nat, (Is [0, 0, 0, 1, 1, 2])[u]? = some (.int (m : Int)) ∧ m ≤ 2 := by
    have hu' : u < 6 := by omega
    match u, hu' with
    | 0, _ => exact ⟨0, rfl, by omega⟩
    | 1, _ => exact ⟨0, rfl, by omega⟩
    | 2, _ => exact ⟨0, rfl, by omega⟩
    | 3, _ => exact ⟨1, rfl, by omega⟩
    | 4, _ => exact ⟨1, rfl, by omega⟩
    | 5, _ => exact ⟨2, rfl, by omega⟩
  refine w_ixL (SqL.of (k4.1 _ _ (nip_is [0, 0, 0, 1, 1, 2]) e3')) hm1 ?_
  walk_at "w"
  refine w_rg1 (by omega) (by omega) ?_
  have k24x : Keep H2 H4 := ((Keep.refl H2).same s3').trans k4
  have Ad := A'.keep (del_keep k24x ⟨[], e2', nip_refs (RA.nil 6 H).refs⟩)
  have k24 : Keep H2 H4 := ((Keep.refl H2).same s3').trans k4
  refine for_range (fun i σ H' => ∃ (ms xs : List V) (v : Option V), σ = [some (.ref a), some (.ref bm), some (.ref p2), v] ∧ H' bm = some (.lst ms) ∧ WA 6 (del p2 H') ms ∧ ms.length = 7 ∧ H' p2 = some (.lst xs) ∧ RA 6 (del p2 H') xs ∧ xs.length = i ∧ Pu a c (n + 1 + 41 * i) H' ∧ Keep H H')
    ⟨_, [], _, rfl, k24.1 _ _ (nip_refs A.refs) em, Ad, rfl, k24.1 _ _ (nip_refs (RA.nil 6 H).refs) e2', RA.nil _ _, rfl, P4, ((Keep.refl H).same sm).trans k24⟩ ?_ ?_
  · rintro i σ H' hi ⟨ms, xs, v, rfl, q1, qa, ql, q2, q3, q4, q5, q6⟩
    have hi : i < 2 := by omega
    dsimp only [gName]
    walk_at "w"
    refine n_lTy q2 ?_
    walk_at "w"
    refine w_lenL (SqL.of q1) ?_
    walk_at "w"
    rw [ql]
    refine ⟨_, _, rfl, a, c, n + 1 + 41 * i, 7, rfl, rfl, by omega, by omega, q5, by omega, fun z H5 hz P5 k5 => ?_⟩
    have q1' := k5.1 _ _ (nip_refs qa.refs) q1
    have qa' := (qa.same (del_same p2 H')).keep k5
    obtain ⟨l, hl, hw⟩ := qa'.get (i := z) (by omega)
    refine w_ixL (SqL.of q1') hl ?_
    walk_at "w"
    refine ⟨_, _, rfl, a, c, n + 1 + 41 * i + 1, 6, rfl, hw, by omega, P5, by omega, fun y H6 hy P6 k6 => ?_⟩
    walk_at "w"
    have k56 := k5.trans k6
    refine n_app (k56.1 _ _ (nip_refs q3.refs) q2) (by omega) (fun H7 e7 x7 => ?_)
    walk_at "w"
    have hd : Rg 6 (del p2 H6) y := Rg.same (nw_del (H := H5) (by rw [k5.1 _ _ (nip_refs q3.refs) q2]; exact fun z => by cases z)) hy
    have dk : Keep (del p2 H') (del p2 H6) := del_keep k56 ⟨xs, q2, nip_refs q3.refs⟩
    have hde := del_ex x7
    refine ⟨_, _, _, rfl, ?_, ?_, ql, e7, ?_, by rw [List.length_append, q4]; rfl, ?_, (q6.trans k56).ex hfr x7⟩
    · rw [x7 bm h12]; exact k6.1 _ _ (nip_refs qa'.refs) q1'
    · rw [hde]; exact qa.keep dk
    · rw [hde]; exact (q3.keep dk).append (RA.one hd)
    · have := P6.ex na nc x7
      rw [show n + 1 + 41 * (i + 1) = n + 1 + 41 * i + 1 + 40 by omega]; exact this
  · rintro σ H' ⟨ms, xs, v, rfl, q1, qa, ql, q2, q3, q4, q5, q6⟩
    walk_at "w"
    exact hQ p2 H' xs q2 (q3.same (del_same p2 H')) (by omega) (q5.mono (by omega)) q6

end
end K36

namespace K36
open PySem PySem.Spec PyProof.Rows L2 SX
local macro_rules | `(tactic| walk_at "w1") => `(tactic| (first
  | with_reducible refine w_seq ?_ | with_reducible refine w_asgN ?_ | with_reducible refine w_c ?_
  | ((with_reducible refine' w_var ?wv ?_); (case wv => exact rfl))
  | with_reducible refine w_op ?_ | with_reducible refine w_un ?_ | with_reducible refine w_next ?_ | with_reducible refine w_brk ?_ | with_reducible refine w_cnt ?_
  | with_reducible refine w_ifS ?_ | with_reducible refine w_if ?_ | with_reducible refine w_test ?_ | with_reducible refine w_tB ?_ | with_reducible refine w_bl ?_ | with_reducible refine w_blI ?_
  | with_reducible refine w_and ?_ | with_reducible refine w_or ?_ | with_reducible refine w_not ?_ | with_reducible refine w_andV ?_ | with_reducible refine w_orV ?_ | with_reducible refine w_notV ?_
  | with_reducible refine w_nil ?_ | with_reducible refine w_cons ?_ | with_reducible refine w_cb ?_ | with_reducible refine w_call ?_ | with_reducible refine w_callS ?_ | with_reducible refine w_chain ?_
  | with_reducible refine w_tupN ?_ | with_reducible refine w_lstN ?_ | with_reducible refine w_sl ?_ | with_reducible refine w_noPart ?_ | with_reducible refine w_part ?_ | with_reducible refine w_partI ?_
  | with_reducible refine w_ret ?_ | with_reducible refine w_retN ?_ | with_reducible refine w_drop ?_ | with_reducible refine w_asg ?_ | with_reducible refine w_gSub ?_
  | ((with_reducible refine' w_aug ?wv ?_); (case wv => exact rfl)) | with_reducible refine w_ipI ?_
  | with_reducible refine w_addI ?_ | with_reducible refine w_subI ?_ | with_reducible refine w_ltI ?_ | with_reducible refine w_leI ?_ | with_reducible refine w_gtI ?_ | with_reducible refine w_geI ?_
  | with_reducible refine w_eqI ?_ | with_reducible refine w_neI ?_ | with_reducible refine w_eqT ?_ | with_reducible refine w_neT ?_ | with_reducible refine w_inS ?_ | with_reducible refine w_ninS ?_
  | with_reducible refine w_absI ?_ | with_reducible refine w_intI ?_ | with_reducible refine w_maxI ?_ | with_reducible refine w_minI ?_
  | with_reducible refine w_for ?_ | with_reducible refine w_iR1 ?_ | with_reducible refine w_iR2 ?_ | with_reducible refine w_iStr ?_ | with_reducible refine w_strI ?_ | with_reducible refine w_iList ?_ | with_reducible refine w_iTup ?_
  | with_reducible refine w_bm ?_ | with_reducible refine w_bm0 ?_ | with_reducible refine w_t ?_ | with_reducible refine w_f ?_ | with_reducible refine w_nt ?_ | with_reducible refine w_nx ?_ | with_reducible refine w_rt ?_ | with_reducible refine w_bk ?_ | with_reducible refine w_ct ?_ | with_reducible refine w_nf ?_ | with_reducible refine w_lc ?_ | with_reducible refine w_yes ?_ | with_reducible refine w_neg ?_ | with_reducible refine w_intB ?_ | with_reducible refine w_fld ?_ | with_reducible refine w_setf ?_ | with_reducible refine w_faug ?_ | with_reducible refine w_meth ?_ | with_reducible refine w_bmS ?_ | with_reducible refine w_start ?_))
local macro_rules | `(tactic| walk_at "w") => `(tactic| (repeat (first | walk_at "w1" | dsimp (config := { proj := false }) only [List.set_cons_zero, List.set_cons_succ])))
section
variable {w : World} {K : PySem.W.Frag} {mg : Str → Option Value} {base : Heap}

/-! ### items -/
def MEN : List (List Nat) := [[98,97,115,101], [100,97,116,97], [99,111,110,115,116], [100,101,102,105,110,101], [98,101,103,105,110], [116,104,101,111,114,101,109], [116,104,101,111,114,101,109]]
def KVS : List (Key × V) := [(Sum.inr (S [100,97,116,97]), .str (S [61])), (Sum.inr (S [99,111,110,115,116]), .str (S [58])), (Sum.inr (S [100,101,102,105,110,101]), .str (S [58,61])), (Sum.inr (S [98,101,103,105,110]), .str (S [58])), (Sum.inr (S [116,104,101,111,114,101,109]), .str (S [58]))]
theorem sgn_get : ∀ s ∈ MEN, s ≠ [98,97,115,101] → ∃ z, valV (mergeK [] KVS) (Sum.inr (S s)) = some (.str (S z)) ∧ Wd z := by
  intro s hs hb
  unfold MEN at hs
  simp only [List.mem_cons, List.not_mem_nil, or_false] at hs
  rcases hs with rfl | rfl | rfl | rfl | rfl | rfl | rfl
  · exact absurd rfl hb
  · exact ⟨[61], by rfl, by decide⟩
  · exact ⟨[58], by rfl, by decide⟩
  · exact ⟨[58, 61], by rfl, by decide⟩
  · exact ⟨[58], by rfl, by decide⟩
  · exact ⟨[58], by rfl, by decide⟩
  · exact ⟨[58], by rfl, by decide⟩
theorem w_disp {trs : List (TE × TE)} {σ : L2.St} {H : Hp} {Q : VK} (h : ∀ p, H p = none → tPairs trs σ (upd H p (.dK [])) fun ps H2 => H2 p = some (.dK []) ∧ ∃ kvs : List (Key × V), ps = kvs.map (fun kv => (kV kv.1, kv.2)) ∧ kvs.length ≤ 15 ∧ Q (.ref p) (upd H2 p (.dK (mergeK [] kvs)))) : tDisp trs σ H Q := h
def sp_law_item_rows : Sp := sp1 fun x H Q _ => ∃ (a c : Addr) (n : Nat), x = .ref a ∧ Pu a c n H ∧ n + 700 ≤ LIM ∧ ∀ v H' (xs : List V), H' v = some (.lst xs) → RA 8 H' xs → xs.length ≤ 13 → Pu a c (n + 700) H' → Keep H H' → Q (.ref v) H'
theorem nip_d (kvs : List (Key × V)) : ¬ IsP (.dK kvs) := by rintro ⟨c, a, b, d, e, h⟩; cases h
theorem ok_law_item_rows (T : Txt w K mg) {fd : FuncData} (F : Fn_law_item_rows K fd) (hm : mg "_law_item_rows" = some (.ref (He.ga K "_law_item_rows"))) (c_law_take : CalX P w K mg base CX0 2 "_law_take" sp_law_take) (c_law_name : CalX P w K mg base CX0 3 "_law_name" sp_law_name) (c_law_row : CalX P w K mg base CX0 3 "_law_row" sp_law_row) (c_law_body : CalX P w K mg base CX0 3 "_law_body" sp_law_body) (c_law_remarks : CalX P w K mg base CX0 4 "_law_remarks" sp_law_remarks) (c_law_tactic : CalX P w K mg base CX0 3 "_law_tactic" sp_law_tactic) : CalX P w K mg base CX0 5 "_law_item_rows" sp_law_item_rows := by
  refine calx0 (k := 4) F hm sc_law_item_rows (b_law_item_rows F) (fun _ _ _ _ h => sp1_len h) (fun cdv A outer s H vs Q E hr h => ?_)
  obtain ⟨x0, rfl, h⟩ := h
  refine ⟨_, (pss_cons (ps_set (i := 1) sc_law_item_rows.nd rfl (Or.inl rfl) (pe_lst (pa_cons pe_str (pa_cons pe_str (pa_cons pe_str (pa_cons pe_str (pa_cons pe_str (pa_cons pe_str (pa_cons pe_str pa_nil)))))))))
    (pss_cons (ps_set (i := 2) sc_law_item_rows.nd rfl (Or.inl rfl) (pe_ix ix_list (pv 1) (pe_cx c_law_take hr (by decide) rfl pass0 (pa_cons (pv 0) (pa_cons (pe_callB call_lenQ (by rfl) T.f_len PySem.boot_len (pa_cons (pv 1) pa_nil)) pa_nil))) (fun _ _ => rfl)))
    (pss_cons (ps_set (i := 3) sc_law_item_rows.nd rfl (Or.inl rfl) (pe_lst (pa_cons (pv 2) (pa_cons (pe_cx c_law_name hr (by decide) rfl pass0 (pa_cons (pv 0) pa_nil)) pa_nil))))
    (pss_cons (ps_if (pt_cmpR op_eq (pv 2) pe_str (nomark _))
    (pss_one (ps_ret (pe_lst (pa_cons (pe_cx c_law_row hr (by decide) rfl pass0 (pa_cons (pv 0) (pa_cons (pv 3) pa_nil))) pa_nil))))
    pss_nil)
    (pss_cons (ps_set (i := 4) sc_law_item_rows.nd rfl (Or.inl rfl) (pe_dget (hu_of hr) (pe_disp (pps_cons pe_str pe_str (pps_cons pe_str pe_str (pps_cons pe_str pe_str (pps_cons pe_str pe_str (pps_cons pe_str pe_str pps_nil))))) (by rfl) (by rfl) (fun z => by cases z) (by decide)) (pv 2) (fun _ _ => rfl)))
    (pss_cons (ps_set (i := 5) sc_law_item_rows.nd rfl (Or.inl rfl) (pe_lst (pa_cons (pe_cx c_law_row hr (by decide) rfl pass0 (pa_cons (pv 0) (pa_cons (pe_op op_cat (pe_op op_cat (pv 3) (pe_lst (pa_cons (pv 4) pa_nil))) (pe_cx c_law_body hr (by decide) rfl pass0 (pa_cons (pv 0) pa_nil))) pa_nil))) pa_nil)))
    (pss_cons (ps_if (pt_cmpR op_eq (pv 2) pe_str (nomark _))
    (pss_cons (ps_for PassesOwn.never rfl (pi_range1 (by rfl) T.f_range (pa_cons (pe_cx c_law_take hr (by decide) rfl pass0 (pa_cons (pv 0) (pa_cons pe_int pa_nil))) pa_nil)) (pg_name (i := 6) sc_law_item_rows.nd rfl (Or.inl rfl))
    (pss_one (ps_set (i := 5) sc_law_item_rows.nd rfl (Or.inl rfl) (pe_op op_cat (pe_op op_cat (pv 5) (pe_cx c_law_remarks hr (by decide) rfl pass0 (pa_cons (pv 0) pa_nil))) (pe_lst (pa_cons (pe_cx c_law_row hr (by decide) rfl pass0 (pa_cons (pv 0) (pa_cons (pe_cx c_law_tactic hr (by decide) rfl pass0 (pa_cons (pv 0) pa_nil)) pa_nil))) pa_nil))))))
    (pss_one (ps_set (i := 5) sc_law_item_rows.nd rfl (Or.inl rfl) (pe_op op_cat (pe_op op_cat (pv 5) (pe_cx c_law_remarks hr (by decide) rfl pass0 (pa_cons (pv 0) pa_nil))) (pe_lst (pa_cons (pe_cx c_law_row hr (by decide) rfl pass0 (pa_cons (pv 0) (pa_cons (pe_lst (pa_cons pe_str pa_nil)) pa_nil))) pa_nil))))))
    pss_nil)
    (pss_one (ps_ret (pv 5)))))))))), ?_⟩
  rw [show start ["purse", "menu", "sort", "words", "sign", "rows", "k"] [x0] = [some x0, none, none, none, none, none, none] from rfl]
  have ec0 : Str.ofString "base" = S [98,97,115,101] := S_ofs (by decide +kernel)
  have ec1 : Str.ofString "data" = S [100,97,116,97] := S_ofs (by decide +kernel)
  have ec2 : Str.ofString "const" = S [99,111,110,115,116] := S_ofs (by decide +kernel)
  have ec3 : Str.ofString "define" = S [100,101,102,105,110,101] := S_ofs (by decide +kernel)
  have ec4 : Str.ofString "begin" = S [98,101,103,105,110] := S_ofs (by decide +kernel)
  have ec5 : Str.ofString "theorem" = S [116,104,101,111,114,101,109] := S_ofs (by decide +kernel)
  have ec6 : Str.ofString "=" = S [61] := S_ofs (by decide +kernel)
  have ec7 : Str.ofString ":" = S [58] := S_ofs (by decide +kernel)
  have ec8 : Str.ofString ":=" = S [58,61] := S_ofs (by decide +kernel)
  have ec9 : Str.ofString "qed" = S [113,101,100] := S_ofs (by decide +kernel)
  rw [ec0, ec1, ec2, ec3, ec4, ec5, ec6, ec7, ec8, ec9]
  obtain ⟨a, c, n, rfl, hP, hL, hQ⟩ := h
  try dsimp only [cxOf]
  walk_at "w"
  refine n_L (fun p1 H1 hp1 s1 e1 => ?_)
  walk_at "w"
  refine w_lenL (SqL.of e1) ?_
  walk_at "w"
  refine ⟨_, _, rfl, a, c, n, 7, rfl, rfl, by omega, by omega, hP.same s1, by omega, fun v H2 hv P2 k2 => ?_⟩
  have hv' : v < MEN.length := hv
  have hm : MEN[v] ∈ MEN := List.getElem_mem hv'
  have hw : ∀ s ∈ MEN, Wd s := by decide
  refine w_ixL (xs := Ws MEN) (SqL.of (k2.1 _ _ (nip_ws MEN) e1)) (ws_at (List.getElem?_eq_getElem hv')) ?_
  generalize MEN[v] = so at hm
  have K2 := ((Keep.refl H).same s1).trans k2
  walk_at "w"
  refine ⟨_, rfl, a, c, n + 1, rfl, P2, by omega, fun nm H3 hnm _ P3 k3 => ?_⟩
  walk_at "w"
  refine n_L (fun p4 H4 hp4 s4 e4 => ?_)
  have P4 := P3.same s4
  have K4 := (K2.trans k3).same s4
  have A4 : AW [.str (S so), .str (S nm)] := AW.cons (hw so hm) (AW.cons hnm AW.nil)
  walk_at "w"
  refine w_dec (fun h1 => ?_) (fun h1 => ?_)
  · walk_at "w"
    refine ⟨_, _, rfl, a, c, n + 1 + 4, 8, rfl, WL.of e4 A4 (Nat.le_of_ble_eq_true rfl), by omega, P4, by omega, fun y H5 hy P5 k5 => ?_⟩
    walk_at "w"
    refine n_L (fun p6 H6 hp6 s6 e6 => ?_)
    exact hQ p6 H6 _ e6 (RA.one ((Rg.same (nw_same _ _) hy).same s6)) (by simp) ((P5.same s6).mono (by omega)) ((K4.trans k5).same s6)
  · walk_at "w"
    refine w_disp (fun pd hpd => ?_)
    show tPairs [(_, _), (_, _), (_, _), (_, _), (_, _)] _ _ _
    refine ⟨upd_same, KVS, rfl, Nat.le_of_ble_eq_true rfl, ?_⟩
    rw [upd_upd]
    obtain ⟨z, hz, hzw⟩ := sgn_get so hm h1
    have s5 : Same H4 (upd H4 pd (.dK (mergeK [] KVS))) := same_upd hpd
    have d5 : upd H4 pd (.dK (mergeK [] KVS)) pd = some (.dK (mergeK [] KVS)) := upd_same
    generalize upd H4 pd (.dK (mergeK [] KVS)) = H5 at s5 d5 ⊢
    refine ⟨_, rfl, pd, .str (S z), rfl, ?_, ?_⟩
    · have := DGet.k (k := Sum.inr (S so)) d5
      rw [hz] at this; exact this
    walk_at "w"
    refine n_L (fun p6 H6 hp6 s6 e6 => ?_)
    refine n_cat (s6 _ _ (s5 _ _ e4)) e6 (Nat.le_of_ble_eq_true rfl) (fun p7 H7 hp7 s7 e7 => ?_)
    have A7 := A4.append (show AW [.str (S z)] from AW.cons hzw AW.nil)
    have s47 := (s5.tr s6).tr s7
    have P7 := P4.same s47
    have K7 := K4.same s47
    walk_at "w"
    refine ⟨_, rfl, a, c, n + 1 + 4, rfl, P7, by omega, fun pb H8 xb e8 A8 l8 l8' P8 k8 => ?_⟩
    refine n_cat (k8.1 _ _ A7.nip e7) e8 (show 3 + xb.length ≤ 100000 by omega) (fun p9 H9 hp9 s9 e9 => ?_)
    walk_at "w"
    refine ⟨_, _, rfl, a, c, n + 1 + 4 + 10, 8, rfl, WL.of e9 (A7.append A8) (by rw [List.length_append]; show 3 + xb.length ≤ 8; omega), by omega, P8.same s9, by omega, fun y H10 hy P10 k10 => ?_⟩
    walk_at "w"
    refine n_L (fun p11 H11 hp11 s11 e11 => ?_)
    have R11 : RA 8 H11 [y] := RA.one ((Rg.same (nw_same _ _) hy).same s11)
    have P11 := P10.same s11
    have K11 := (((K7.trans k8).same s9).trans k10).same s11
    walk_at "w"
    refine w_dec (fun h2 => ?_) (fun h2 => ?_)
    rotate_left
    · walk_at "w"
      exact hQ p11 H11 _ e11 R11 (by simp) (P11.mono (by omega)) K11
    walk_at "w"
    refine ⟨_, _, rfl, a, c, n + 1 + 4 + 10 + 40, 4, rfl, rfl, by omega, by omega, P11, by omega, fun u H12 hu P12 k12 => ?_⟩
    walk_at "w"
    refine w_rg1 (by omega) (by omega) ?_
    refine for_range (fun i σ H' => ∃ (q : Addr) (xs : List V) (x1 x2 x3 x4 x5 : Option V), σ = [some (.ref a), x1, x2, x3, x4, some (.ref q), x5] ∧ H' q = some (.lst xs) ∧ RA 8 H' xs ∧ xs.length ≤ 1 + 3 * i ∧ Pu a c (n + 56 + 141 * i) H' ∧ Keep H H')
      ⟨_, _, _, _, _, _, _, rfl, k12.1 _ _ (nip_refs R11.refs) e11, R11.keep k12, by simp, P12.mono (by omega), K11.trans k12⟩ ?_ ?_
    · rintro i σ H' hi ⟨q, xs, x1, x2, x3, x4, x5, rfl, q1, q2, q3, q4, q5⟩
      have hi : i < 3 := by omega
      dsimp only [gName]
      walk_at "w"
      refine ⟨_, rfl, a, c, _, rfl, q4, by omega, fun pr H13 xr e13 R13 l13 P13 k13 => ?_⟩
      refine n_cat (k13.1 _ _ (nip_refs q2.refs) q1) e13 (by omega) (fun p14 H14 hp14 s14 e14 => ?_)
      have R14 := ((q2.keep k13).append (R13.mono (by omega))).same s14
      walk_at "w"
      refine ⟨_, rfl, a, c, _, rfl, P13.same s14, by omega, fun y2 H15 hy2 P15 k15 => ?_⟩
      walk_at "w"
      refine ⟨_, _, rfl, a, c, _, 6, rfl, hy2, by omega, P15, by omega, fun y3 H16 hy3 P16 k16 => ?_⟩
      walk_at "w"
      refine n_L (fun p17 H17 hp17 s17 e17 => ?_)
      have k1516 := k15.trans k16
      have e14' := s17 _ _ (k1516.1 _ _ (nip_refs R14.refs) e14)
      refine n_cat e14' e17 (show (xs ++ xr).length + 1 ≤ 100000 by rw [List.length_append]; omega) (fun p18 H18 hp18 s18 e18 => ?_)
      have R18 := (((R14.keep k1516).same s17).append (RA.one (((Rg.same (nw_same _ _) hy3).same s17).mono (by omega : 6 ≤ 8)))).same s18
      walk_at "w"
      exact ⟨_, _, _, _, _, _, _, rfl, e18, R18, by rw [List.length_append, List.length_append]; show xs.length + xr.length + 1 ≤ _; omega, ((P16.same s17).same s18).mono (by omega), ((((q5.trans k13).same s14).trans k1516).same s17).same s18⟩
    · rintro σ H' ⟨q, xs, x1, x2, x3, x4, x5, rfl, q1, q2, q3, q4, q5⟩
      walk_at "w"
      refine ⟨_, rfl, a, c, _, rfl, q4, by omega, fun pr H13 xr e13 R13 l13 P13 k13 => ?_⟩
      refine n_cat (k13.1 _ _ (nip_refs q2.refs) q1) e13 (by omega) (fun p14 H14 hp14 s14 e14 => ?_)
      have R14 := ((q2.keep k13).append (R13.mono (by omega))).same s14
      walk_at "w"
      refine n_L (fun p15 H15 hp15 s15 e15 => ?_)
      have A15 : AW [.str (S [113,101,100])] := AW.cons (by decide) AW.nil
      walk_at "w"
      refine ⟨_, _, rfl, a, c, _, 6, rfl, WL.of e15 A15 (Nat.le_of_ble_eq_true rfl), by omega, (P13.same s14).same s15, by omega, fun y3 H16 hy3 P16 k16 => ?_⟩
      walk_at "w"
      refine n_L (fun p17 H17 hp17 s17 e17 => ?_)
      have k1516 := ((Keep.refl H14).same s15).trans k16
      have e14' := s17 _ _ (k1516.1 _ _ (nip_refs R14.refs) e14)
      refine n_cat e14' e17 (show (xs ++ xr).length + 1 ≤ 100000 by rw [List.length_append]; omega) (fun p18 H18 hp18 s18 e18 => ?_)
      have R18 := (((R14.keep k1516).same s17).append (RA.one (((Rg.same (nw_same _ _) hy3).same s17).mono (by omega : 6 ≤ 8)))).same s18
      walk_at "w"
      exact hQ p18 H18 _ e18 R18 (by rw [List.length_append, List.length_append]; show xs.length + xr.length + 1 ≤ _; omega) (((P16.same s17).same s18).mono (by omega)) (((((q5.trans k13).same s14).trans k1516).same s17).same s18)

end
end K36

namespace K36
open PySem PySem.Spec PyProof.Rows L2 SX
local macro_rules | `(tactic| walk_at "w1") => `(tactic| (first
  | with_reducible refine w_seq ?_ | with_reducible refine w_asgN ?_ | with_reducible refine w_c ?_
  | ((with_reducible refine' w_var ?wv ?_); (case wv => exact rfl))
  | with_reducible refine w_op ?_ | with_reducible refine w_un ?_ | with_reducible refine w_next ?_ | with_reducible refine w_brk ?_ | with_reducible refine w_cnt ?_
  | with_reducible refine w_ifS ?_ | with_reducible refine w_if ?_ | with_reducible refine w_test ?_ | with_reducible refine w_tB ?_ | with_reducible refine w_bl ?_ | with_reducible refine w_blI ?_
  | with_reducible refine w_and ?_ | with_reducible refine w_or ?_ | with_reducible refine w_not ?_ | with_reducible refine w_andV ?_ | with_reducible refine w_orV ?_ | with_reducible refine w_notV ?_
  | with_reducible refine w_nil ?_ | with_reducible refine w_cons ?_ | with_reducible refine w_cb ?_ | with_reducible refine w_call ?_ | with_reducible refine w_callS ?_ | with_reducible refine w_chain ?_
  | with_reducible refine w_tupN ?_ | with_reducible refine w_lstN ?_ | with_reducible refine w_sl ?_ | with_reducible refine w_noPart ?_ | with_reducible refine w_part ?_ | with_reducible refine w_partI ?_
  | with_reducible refine w_ret ?_ | with_reducible refine w_retN ?_ | with_reducible refine w_drop ?_ | with_reducible refine w_asg ?_ | with_reducible refine w_gSub ?_
  | ((with_reducible refine' w_aug ?wv ?_); (case wv => exact rfl)) | with_reducible refine w_ipI ?_
  | with_reducible refine w_addI ?_ | with_reducible refine w_subI ?_ | with_reducible refine w_ltI ?_ | with_reducible refine w_leI ?_ | with_reducible refine w_gtI ?_ | with_reducible refine w_geI ?_
  | with_reducible refine w_eqI ?_ | with_reducible refine w_neI ?_ | with_reducible refine w_eqT ?_ | with_reducible refine w_neT ?_ | with_reducible refine w_inS ?_ | with_reducible refine w_ninS ?_
  | with_reducible refine w_absI ?_ | with_reducible refine w_intI ?_ | with_reducible refine w_maxI ?_ | with_reducible refine w_minI ?_
  | with_reducible refine w_for ?_ | with_reducible refine w_iR1 ?_ | with_reducible refine w_iR2 ?_ | with_reducible refine w_iStr ?_ | with_reducible refine w_strI ?_ | with_reducible refine w_iList ?_ | with_reducible refine w_iTup ?_
  | with_reducible refine w_bm ?_ | with_reducible refine w_bm0 ?_ | with_reducible refine w_t ?_ | with_reducible refine w_f ?_ | with_reducible refine w_nt ?_ | with_reducible refine w_nx ?_ | with_reducible refine w_rt ?_ | with_reducible refine w_bk ?_ | with_reducible refine w_ct ?_ | with_reducible refine w_nf ?_ | with_reducible refine w_lc ?_ | with_reducible refine w_yes ?_ | with_reducible refine w_neg ?_ | with_reducible refine w_intB ?_ | with_reducible refine w_fld ?_ | with_reducible refine w_setf ?_ | with_reducible refine w_faug ?_ | with_reducible refine w_meth ?_ | with_reducible refine w_bmS ?_ | with_reducible refine w_start ?_))
local macro_rules | `(tactic| walk_at "w") => `(tactic| (repeat (first | walk_at "w1" | dsimp (config := { proj := false }) only [List.set_cons_zero, List.set_cons_succ])))
section
variable {w : World} {K : PySem.W.Frag} {mg : Str → Option Value} {base : Heap}

theorem wd_r {l : List Nat} (h : Wd l) (h16 : l.length ≤ 16) {m : List Nat} (hm : m.length ≤ 20 ∧ ∀ c ∈ m, c ≠ 32 ∧ c ≠ 10 ∧ c < 256) : Wd (l ++ m) := ⟨fun z => h.1 (List.append_eq_nil_iff.mp z).1, by rw [List.length_append]; omega, fun c hc => by
  rcases List.mem_append.mp hc with z | z
  · exact h.2.2 c z
  · exact hm.2 c z⟩
theorem wd_l {l : List Nat} (h : Wd l) (h16 : l.length ≤ 16) {m : List Nat} (hm : m.length ≤ 20 ∧ ∀ c ∈ m, c ≠ 32 ∧ c ≠ 10 ∧ c < 256) : Wd (m ++ l) := ⟨fun z => h.1 (List.append_eq_nil_iff.mp z).2, by rw [List.length_append]; omega, fun c hc => by
  rcases List.mem_append.mp hc with z | z
  · exact hm.2 c z
  · exact h.2.2 c z⟩
def sp_law_other_words : Sp := sp1 fun x H Q _ => ∃ (a c : Addr) (n : Nat), x = .ref a ∧ Pu a c n H ∧ n + 6 ≤ LIM ∧ ∀ v H', WL 6 H' v → Pu a c (n + 6) H' → Keep H H' → Q v H'
theorem ok_law_other_words (T : Txt w K mg) {fd : FuncData} (F : Fn_law_other_words K fd) (hm : mg "_law_other_words" = some (.ref (He.ga K "_law_other_words"))) (c_law_take : CalX P w K mg base CX0 2 "_law_take" sp_law_take) (c_law_name : CalX P w K mg base CX0 3 "_law_name" sp_law_name) (c_law_odd_word : CalX P w K mg base CX0 3 "_law_odd_word" sp_law_odd_word) : CalX P w K mg base CX0 4 "_law_other_words" sp_law_other_words := by
  refine calx0 (k := 3) F hm sc_law_other_words (b_law_other_words F) (fun _ _ _ _ h => sp1_len h) (fun cdv A outer s H vs Q E hr h => ?_)
  obtain ⟨x0, rfl, h⟩ := h
  refine ⟨_, (pss_cons (ps_set (i := 1) sc_law_other_words.nd rfl (Or.inl rfl) (pe_cx c_law_name hr (by decide) rfl pass0 (pa_cons (pv 0) pa_nil)))
    (pss_cons (ps_set (i := 2) sc_law_other_words.nd rfl (Or.inl rfl) (pe_cx c_law_odd_word hr (by decide) rfl pass0 (pa_cons (pv 0) pa_nil)))
    (pss_cons (ps_set (i := 3) sc_law_other_words.nd rfl (Or.inl rfl) (pe_lst (pa_cons (pe_lst (pa_cons pe_str pa_nil)) (pa_cons (pe_lst (pa_cons pe_str (pa_cons (pv 1) pa_nil))) (pa_cons (pe_lst (pa_cons pe_str (pa_cons (pv 1) pa_nil))) (pa_cons (pe_lst (pa_cons pe_str (pa_cons (pv 1) (pa_cons (pv 1) pa_nil)))) (pa_cons (pe_lst (pa_cons pe_str (pa_cons (pv 1) (pa_cons (pv 2) pa_nil)))) pa_nil)))))))
    (pss_cons (ps_set (i := 3) sc_law_other_words.nd rfl (Or.inl rfl) (pe_op op_cat (pv 3) (pe_lst (pa_cons (pe_lst (pa_cons pe_str pa_nil)) (pa_cons (pe_lst (pa_cons pe_str pa_nil)) (pa_cons (pe_lst (pa_cons pe_str (pa_cons (pv 1) pa_nil))) (pa_cons (pe_lst (pa_cons pe_str (pa_cons (pv 1) (pa_cons (pv 1) pa_nil)))) (pa_cons (pe_lst (pa_cons pe_str (pa_cons (pv 2) pa_nil))) (pa_cons (pe_lst (pa_cons pe_str pa_nil)) pa_nil)))))))))
    (pss_cons (ps_set (i := 3) sc_law_other_words.nd rfl (Or.inl rfl) (pe_op op_cat (pv 3) (pe_lst (pa_cons (pe_lst (pa_cons pe_str (pa_cons (pv 1) (pa_cons (pv 1) pa_nil)))) (pa_cons (pe_lst (pa_cons pe_str (pa_cons (pv 1) (pa_cons pe_str (pa_cons (pv 1) pa_nil))))) (pa_cons (pe_lst (pa_cons pe_str (pa_cons (pv 1) (pa_cons pe_str pa_nil)))) (pa_cons (pe_lst (pa_cons pe_str (pa_cons (pv 1) pa_nil))) pa_nil)))))))
    (pss_cons (ps_set (i := 3) sc_law_other_words.nd rfl (Or.inl rfl) (pe_op op_cat (pv 3) (pe_lst (pa_cons (pe_lst (pa_cons pe_str (pa_cons (pe_op op_catS (pv 1) pe_str) (pa_cons (pv 1) pa_nil)))) (pa_cons (pe_lst (pa_cons pe_str (pa_cons (pv 1) (pa_cons (pe_op op_catS pe_str (pv 1)) pa_nil)))) (pa_cons (pe_lst (pa_cons pe_str (pa_cons (pv 2) (pa_cons pe_str (pa_cons (pv 1) pa_nil))))) pa_nil))))))
    (pss_cons (ps_set (i := 3) sc_law_other_words.nd rfl (Or.inl rfl) (pe_op op_cat (pv 3) (pe_lst (pa_cons (pe_lst (pa_cons pe_str (pa_cons (pv 1) (pa_cons (pv 2) (pa_cons (pv 1) pa_nil))))) (pa_cons (pe_lst (pa_cons pe_str pa_nil)) (pa_cons (pe_lst (pa_cons pe_str (pa_cons (pv 1) (pa_cons pe_str (pa_cons (pv 1) pa_nil))))) pa_nil))))))
    (pss_cons (ps_set (i := 3) sc_law_other_words.nd rfl (Or.inl rfl) (pe_op op_cat (pv 3) (pe_lst (pa_cons (pe_lst (pa_cons pe_str (pa_cons (pv 1) (pa_cons pe_str pa_nil)))) (pa_cons (pe_lst (pa_cons pe_str (pa_cons (pv 1) (pa_cons pe_str (pa_cons pe_str (pa_cons (pv 1) pa_nil)))))) (pa_cons (pe_lst (pa_cons pe_str (pa_cons (pv 1) (pa_cons pe_str (pa_cons (pv 1) pa_nil))))) pa_nil))))))
    (pss_cons (ps_set (i := 3) sc_law_other_words.nd rfl (Or.inl rfl) (pe_op op_cat (pv 3) (pe_lst (pa_cons (pe_lst (pa_cons pe_str (pa_cons (pv 1) (pa_cons pe_str (pa_cons (pv 2) pa_nil))))) pa_nil))))
    (pss_cons (ps_set (i := 3) sc_law_other_words.nd rfl (Or.inl rfl) (pe_op op_cat (pv 3) (pe_lst (pa_cons (pe_lst (pa_cons pe_str (pa_cons (pv 1) (pa_cons pe_str (pa_cons (pv 1) pa_nil))))) (pa_cons (pe_lst (pa_cons pe_str (pa_cons (pv 1) (pa_cons pe_str (pa_cons pe_str pa_nil))))) (pa_cons (pe_lst (pa_cons pe_str (pa_cons (pv 1) (pa_cons pe_str pa_nil)))) pa_nil))))))
    (pss_cons (ps_set (i := 3) sc_law_other_words.nd rfl (Or.inl rfl) (pe_op op_cat (pv 3) (pe_lst (pa_cons (pe_lst (pa_cons pe_str (pa_cons (pv 1) (pa_cons (pv 1) pa_nil)))) (pa_cons (pe_lst (pa_cons pe_str (pa_cons (pv 2) (pa_cons pe_str (pa_cons (pv 1) pa_nil))))) (pa_cons (pe_lst (pa_cons pe_str (pa_cons (pv 1) (pa_cons pe_str (pa_cons (pv 1) pa_nil))))) pa_nil))))))
    (pss_cons (ps_set (i := 3) sc_law_other_words.nd rfl (Or.inl rfl) (pe_op op_cat (pv 3) (pe_lst (pa_cons (pe_lst (pa_cons pe_str (pa_cons (pv 1) (pa_cons pe_str pa_nil)))) (pa_cons (pe_lst (pa_cons pe_str (pa_cons (pv 1) (pa_cons pe_str (pa_cons (pv 1) pa_nil))))) (pa_cons (pe_lst (pa_cons pe_str (pa_cons (pv 1) pa_nil))) (pa_cons (pe_lst (pa_cons pe_str (pa_cons (pv 1) pa_nil))) pa_nil)))))))
    (pss_cons (ps_set (i := 3) sc_law_other_words.nd rfl (Or.inl rfl) (pe_op op_cat (pv 3) (pe_lst (pa_cons (pe_lst (pa_cons pe_str (pa_cons (pv 1) (pa_cons pe_str (pa_cons (pv 1) pa_nil))))) (pa_cons (pe_lst (pa_cons (pv 2) pa_nil)) (pa_cons (pe_lst (pa_cons (pv 1) pa_nil)) (pa_cons (pe_lst (pa_cons pe_str (pa_cons (pv 1) pa_nil))) (pa_cons (pe_lst (pa_cons pe_str (pa_cons (pv 1) pa_nil))) (pa_cons (pe_lst (pa_cons (pe_op op_catS pe_str (pv 1)) pa_nil)) pa_nil)))))))))
    (pss_one (ps_ret (pe_ix ix_list (pv 3) (pe_cx c_law_take hr (by decide) rfl pass0 (pa_cons (pv 0) (pa_cons (pe_callB call_lenQ (by rfl) T.f_len PySem.boot_len (pa_cons (pv 3) pa_nil)) pa_nil))) (fun _ _ => rfl))))))))))))))))), ?_⟩
  rw [show start ["purse", "name", "odd", "menu"] [x0] = [some x0, none, none, none] from rfl]
  have ec0 : Str.ofString "qed" = S [113,101,100] := S_ofs (by decide +kernel)
  have ec1 : Str.ofString "book" = S [98,111,111,107] := S_ofs (by decide +kernel)
  have ec2 : Str.ofString "leans" = S [108,101,97,110,115] := S_ofs (by decide +kernel)
  have ec3 : Str.ofString "base" = S [98,97,115,101] := S_ofs (by decide +kernel)
  have ec4 : Str.ofString "const" = S [99,111,110,115,116] := S_ofs (by decide +kernel)
  have ec5 : Str.ofString "=" = S [61] := S_ofs (by decide +kernel)
  have ec6 : Str.ofString ":" = S [58] := S_ofs (by decide +kernel)
  have ec7 : Str.ofString "define" = S [100,101,102,105,110,101] := S_ofs (by decide +kernel)
  have ec8 : Str.ofString ":=" = S [58,61] := S_ofs (by decide +kernel)
  have ec9 : Str.ofString "begin" = S [98,101,103,105,110] := S_ofs (by decide +kernel)
  have ec10 : Str.ofString "data" = S [100,97,116,97] := S_ofs (by decide +kernel)
  have ec11 : Str.ofString "|" = S [124] := S_ofs (by decide +kernel)
  have ec12 : Str.ofString "theorem" = S [116,104,101,111,114,101,109] := S_ofs (by decide +kernel)
  have ec13 : Str.ofString "Base" = S [66,97,115,101] := S_ofs (by decide +kernel)
  have ec14 : Str.ofString "axiom" = S [97,120,105,111,109] := S_ofs (by decide +kernel)
  have ec15 : Str.ofString "#" = S [35] := S_ofs (by decide +kernel)
  rw [ec0, ec1, ec2, ec3, ec4, ec5, ec6, ec7, ec8, ec9, ec10, ec11, ec12, ec13, ec14, ec15]
  obtain ⟨a, c, n, rfl, hP, hL, hQ⟩ := h
  try dsimp only [cxOf]
  walk_at "w"
  refine ⟨_, rfl, a, c, n, rfl, hP, by omega, fun nm H1 hnm hn16 P1 k1 => ?_⟩
  walk_at "w"
  refine ⟨_, rfl, a, c, _, rfl, P1, by omega, fun od H2 hod P2 k2 => ?_⟩
  walk_at "w"
  refine n_L (fun b1 G1 hb1 s1 e1 => ?_)
  have A1 := WA.snoc (m := 6) (WA.nil 6 H2) s1 e1 (show AW [.str (S [113,101,100])] from (AW.cons (by decide) (AW.nil))) (Nat.le_of_ble_eq_true rfl)
  walk_at "w"
  refine n_L (fun b2 G2 hb2 s2 e2 => ?_)
  have A2 := WA.snoc (m := 6) A1 s2 e2 (show AW [.str (S [98,111,111,107]), .str (S nm)] from (AW.cons (by decide) (AW.cons hnm (AW.nil)))) (Nat.le_of_ble_eq_true rfl)
  walk_at "w"
  refine n_L (fun b3 G3 hb3 s3 e3 => ?_)
  have A3 := WA.snoc (m := 6) A2 s3 e3 (show AW [.str (S [108,101,97,110,115]), .str (S nm)] from (AW.cons (by decide) (AW.cons hnm (AW.nil)))) (Nat.le_of_ble_eq_true rfl)
  walk_at "w"
  refine n_L (fun b4 G4 hb4 s4 e4 => ?_)
  have A4 := WA.snoc (m := 6) A3 s4 e4 (show AW [.str (S [108,101,97,110,115]), .str (S nm), .str (S nm)] from (AW.cons (by decide) (AW.cons hnm (AW.cons hnm (AW.nil))))) (Nat.le_of_ble_eq_true rfl)
  walk_at "w"
  refine n_L (fun b5 G5 hb5 s5 e5 => ?_)
  have A5 := WA.snoc (m := 6) A4 s5 e5 (show AW [.str (S [108,101,97,110,115]), .str (S nm), .str (S od)] from (AW.cons (by decide) (AW.cons hnm (AW.cons hod (AW.nil))))) (Nat.le_of_ble_eq_true rfl)
  walk_at "w"
  refine n_L (fun b6 G6 hb6 s6 e6 => ?_)
  have A6 := WA.same A5 s6
  walk_at "w"
  refine n_L (fun b7 G7 hb7 s7 e7 => ?_)
  have A7 := WA.snoc (m := 6) (WA.nil 6 G6) s7 e7 (show AW [.str (S [108,101,97,110,115])] from (AW.cons (by decide) (AW.nil))) (Nat.le_of_ble_eq_true rfl)
  walk_at "w"
  refine n_L (fun b8 G8 hb8 s8 e8 => ?_)
  have A8 := WA.snoc (m := 6) A7 s8 e8 (show AW [.str (S [98,97,115,101])] from (AW.cons (by decide) (AW.nil))) (Nat.le_of_ble_eq_true rfl)
  walk_at "w"
  refine n_L (fun b9 G9 hb9 s9 e9 => ?_)
  have A9 := WA.snoc (m := 6) A8 s9 e9 (show AW [.str (S [98,97,115,101]), .str (S nm)] from (AW.cons (by decide) (AW.cons hnm (AW.nil)))) (Nat.le_of_ble_eq_true rfl)
  walk_at "w"
  refine n_L (fun b10 G10 hb10 s10 e10 => ?_)
  have A10 := WA.snoc (m := 6) A9 s10 e10 (show AW [.str (S [98,97,115,101]), .str (S nm), .str (S nm)] from (AW.cons (by decide) (AW.cons hnm (AW.cons hnm (AW.nil))))) (Nat.le_of_ble_eq_true rfl)
  walk_at "w"
  refine n_L (fun b11 G11 hb11 s11 e11 => ?_)
  have A11 := WA.snoc (m := 6) A10 s11 e11 (show AW [.str (S [98,97,115,101]), .str (S od)] from (AW.cons (by decide) (AW.cons hod (AW.nil)))) (Nat.le_of_ble_eq_true rfl)
  walk_at "w"
  refine n_L (fun b12 G12 hb12 s12 e12 => ?_)
  have A12 := WA.snoc (m := 6) A11 s12 e12 (show AW [.str (S [98,111,111,107])] from (AW.cons (by decide) (AW.nil))) (Nat.le_of_ble_eq_true rfl)
  walk_at "w"
  refine n_L (fun b13 G13 hb13 s13 e13 => ?_)
  have A13 := WA.same A12 s13
  refine n_cat (((((((s7.tr s8).tr s9).tr s10).tr s11).tr s12).tr s13) _ _ e6) e13 (Nat.le_of_ble_eq_true rfl) (fun b14 G14 hb14 s14 e14 => ?_)
  have A14 := WA.same (WA.append (WA.same A6 ((((((s7.tr s8).tr s9).tr s10).tr s11).tr s12).tr s13)) A13) s14
  walk_at "w"
  refine n_L (fun b15 G15 hb15 s15 e15 => ?_)
  have A15 := WA.snoc (m := 6) (WA.nil 6 G14) s15 e15 (show AW [.str (S [98,111,111,107]), .str (S nm), .str (S nm)] from (AW.cons (by decide) (AW.cons hnm (AW.cons hnm (AW.nil))))) (Nat.le_of_ble_eq_true rfl)
  walk_at "w"
  refine n_L (fun b16 G16 hb16 s16 e16 => ?_)
  have A16 := WA.snoc (m := 6) A15 s16 e16 (show AW [.str (S [99,111,110,115,116]), .str (S nm), .str (S [61]), .str (S nm)] from (AW.cons (by decide) (AW.cons hnm (AW.cons (by decide) (AW.cons hnm (AW.nil)))))) (Nat.le_of_ble_eq_true rfl)
  walk_at "w"
  refine n_L (fun b17 G17 hb17 s17 e17 => ?_)
  have A17 := WA.snoc (m := 6) A16 s17 e17 (show AW [.str (S [99,111,110,115,116]), .str (S nm), .str (S [58])] from (AW.cons (by decide) (AW.cons hnm (AW.cons (by decide) (AW.nil))))) (Nat.le_of_ble_eq_true rfl)
  walk_at "w"
  refine n_L (fun b18 G18 hb18 s18 e18 => ?_)
  have A18 := WA.snoc (m := 6) A17 s18 e18 (show AW [.str (S [99,111,110,115,116]), .str (S nm)] from (AW.cons (by decide) (AW.cons hnm (AW.nil)))) (Nat.le_of_ble_eq_true rfl)
  walk_at "w"
  refine n_L (fun b19 G19 hb19 s19 e19 => ?_)
  have A19 := WA.same A18 s19
  refine n_cat (((((s15.tr s16).tr s17).tr s18).tr s19) _ _ e14) e19 (Nat.le_of_ble_eq_true rfl) (fun b20 G20 hb20 s20 e20 => ?_)
  have A20 := WA.same (WA.append (WA.same A14 ((((s15.tr s16).tr s17).tr s18).tr s19)) A19) s20
  walk_at "w"
  refine w_catT (szl (show nm.length + 1 ≤ 100 by omega)) ?_
  walk_at "w"
  refine n_L (fun b21 G21 hb21 s21 e21 => ?_)
  have A21 := WA.snoc (m := 6) (WA.nil 6 G20) s21 e21 (show AW [.str (S [99,111,110,115,116]), .str (S (nm ++ [58])), .str (S nm)] from (AW.cons (by decide) (AW.cons (wd_r hnm hn16 (by decide)) (AW.cons hnm (AW.nil))))) (Nat.le_of_ble_eq_true rfl)
  walk_at "w"
  refine w_catT (szl (show 1 + nm.length ≤ 100 by omega)) ?_
  walk_at "w"
  refine n_L (fun b22 G22 hb22 s22 e22 => ?_)
  have A22 := WA.snoc (m := 6) A21 s22 e22 (show AW [.str (S [99,111,110,115,116]), .str (S nm), .str (S ([58] ++ nm))] from (AW.cons (by decide) (AW.cons hnm (AW.cons (wd_l hnm hn16 (by decide)) (AW.nil))))) (Nat.le_of_ble_eq_true rfl)
  walk_at "w"
  refine n_L (fun b23 G23 hb23 s23 e23 => ?_)
  have A23 := WA.snoc (m := 6) A22 s23 e23 (show AW [.str (S [99,111,110,115,116]), .str (S od), .str (S [58]), .str (S nm)] from (AW.cons (by decide) (AW.cons hod (AW.cons (by decide) (AW.cons hnm (AW.nil)))))) (Nat.le_of_ble_eq_true rfl)
  walk_at "w"
  refine n_L (fun b24 G24 hb24 s24 e24 => ?_)
  have A24 := WA.same A23 s24
  refine n_cat ((((s21.tr s22).tr s23).tr s24) _ _ e20) e24 (Nat.le_of_ble_eq_true rfl) (fun b25 G25 hb25 s25 e25 => ?_)
  have A25 := WA.same (WA.append (WA.same A20 (((s21.tr s22).tr s23).tr s24)) A24) s25
  walk_at "w"
  refine n_L (fun b26 G26 hb26 s26 e26 => ?_)
  have A26 := WA.snoc (m := 6) (WA.nil 6 G25) s26 e26 (show AW [.str (S [99,111,110,115,116]), .str (S nm), .str (S od), .str (S nm)] from (AW.cons (by decide) (AW.cons hnm (AW.cons hod (AW.cons hnm (AW.nil)))))) (Nat.le_of_ble_eq_true rfl)
  walk_at "w"
  refine n_L (fun b27 G27 hb27 s27 e27 => ?_)
  have A27 := WA.snoc (m := 6) A26 s27 e27 (show AW [.str (S [99,111,110,115,116])] from (AW.cons (by decide) (AW.nil))) (Nat.le_of_ble_eq_true rfl)
  walk_at "w"
  refine n_L (fun b28 G28 hb28 s28 e28 => ?_)
  have A28 := WA.snoc (m := 6) A27 s28 e28 (show AW [.str (S [100,101,102,105,110,101]), .str (S nm), .str (S [58]), .str (S nm)] from (AW.cons (by decide) (AW.cons hnm (AW.cons (by decide) (AW.cons hnm (AW.nil)))))) (Nat.le_of_ble_eq_true rfl)
  walk_at "w"
  refine n_L (fun b29 G29 hb29 s29 e29 => ?_)
  have A29 := WA.same A28 s29
  refine n_cat ((((s26.tr s27).tr s28).tr s29) _ _ e25) e29 (Nat.le_of_ble_eq_true rfl) (fun b30 G30 hb30 s30 e30 => ?_)
  have A30 := WA.same (WA.append (WA.same A25 (((s26.tr s27).tr s28).tr s29)) A29) s30
  walk_at "w"
  refine n_L (fun b31 G31 hb31 s31 e31 => ?_)
  have A31 := WA.snoc (m := 6) (WA.nil 6 G30) s31 e31 (show AW [.str (S [100,101,102,105,110,101]), .str (S nm), .str (S [58,61])] from (AW.cons (by decide) (AW.cons hnm (AW.cons (by decide) (AW.nil))))) (Nat.le_of_ble_eq_true rfl)
  walk_at "w"
  refine n_L (fun b32 G32 hb32 s32 e32 => ?_)
  have A32 := WA.snoc (m := 6) A31 s32 e32 (show AW [.str (S [100,101,102,105,110,101]), .str (S nm), .str (S [58,61]), .str (S [58,61]), .str (S nm)] from (AW.cons (by decide) (AW.cons hnm (AW.cons (by decide) (AW.cons (by decide) (AW.cons hnm (AW.nil))))))) (Nat.le_of_ble_eq_true rfl)
  walk_at "w"
  refine n_L (fun b33 G33 hb33 s33 e33 => ?_)
  have A33 := WA.snoc (m := 6) A32 s33 e33 (show AW [.str (S [98,101,103,105,110]), .str (S nm), .str (S [58,61]), .str (S nm)] from (AW.cons (by decide) (AW.cons hnm (AW.cons (by decide) (AW.cons hnm (AW.nil)))))) (Nat.le_of_ble_eq_true rfl)
  walk_at "w"
  refine n_L (fun b34 G34 hb34 s34 e34 => ?_)
  have A34 := WA.same A33 s34
  refine n_cat ((((s31.tr s32).tr s33).tr s34) _ _ e30) e34 (Nat.le_of_ble_eq_true rfl) (fun b35 G35 hb35 s35 e35 => ?_)
  have A35 := WA.same (WA.append (WA.same A30 (((s31.tr s32).tr s33).tr s34)) A34) s35
  walk_at "w"
  refine n_L (fun b36 G36 hb36 s36 e36 => ?_)
  have A36 := WA.snoc (m := 6) (WA.nil 6 G35) s36 e36 (show AW [.str (S [98,101,103,105,110]), .str (S nm), .str (S [58]), .str (S od)] from (AW.cons (by decide) (AW.cons hnm (AW.cons (by decide) (AW.cons hod (AW.nil)))))) (Nat.le_of_ble_eq_true rfl)
  walk_at "w"
  refine n_L (fun b37 G37 hb37 s37 e37 => ?_)
  have A37 := WA.same A36 s37
  refine n_cat ((s36.tr s37) _ _ e35) e37 (Nat.le_of_ble_eq_true rfl) (fun b38 G38 hb38 s38 e38 => ?_)
  have A38 := WA.same (WA.append (WA.same A35 (s36.tr s37)) A37) s38
  walk_at "w"
  refine n_L (fun b39 G39 hb39 s39 e39 => ?_)
  have A39 := WA.snoc (m := 6) (WA.nil 6 G38) s39 e39 (show AW [.str (S [100,97,116,97]), .str (S nm), .str (S [58]), .str (S nm)] from (AW.cons (by decide) (AW.cons hnm (AW.cons (by decide) (AW.cons hnm (AW.nil)))))) (Nat.le_of_ble_eq_true rfl)
  walk_at "w"
  refine n_L (fun b40 G40 hb40 s40 e40 => ?_)
  have A40 := WA.snoc (m := 6) A39 s40 e40 (show AW [.str (S [100,97,116,97]), .str (S nm), .str (S [61]), .str (S [124])] from (AW.cons (by decide) (AW.cons hnm (AW.cons (by decide) (AW.cons (by decide) (AW.nil)))))) (Nat.le_of_ble_eq_true rfl)
  walk_at "w"
  refine n_L (fun b41 G41 hb41 s41 e41 => ?_)
  have A41 := WA.snoc (m := 6) A40 s41 e41 (show AW [.str (S [100,97,116,97]), .str (S nm), .str (S [61])] from (AW.cons (by decide) (AW.cons hnm (AW.cons (by decide) (AW.nil))))) (Nat.le_of_ble_eq_true rfl)
  walk_at "w"
  refine n_L (fun b42 G42 hb42 s42 e42 => ?_)
  have A42 := WA.same A41 s42
  refine n_cat ((((s39.tr s40).tr s41).tr s42) _ _ e38) e42 (Nat.le_of_ble_eq_true rfl) (fun b43 G43 hb43 s43 e43 => ?_)
  have A43 := WA.same (WA.append (WA.same A38 (((s39.tr s40).tr s41).tr s42)) A42) s43
  walk_at "w"
  refine n_L (fun b44 G44 hb44 s44 e44 => ?_)
  have A44 := WA.snoc (m := 6) (WA.nil 6 G43) s44 e44 (show AW [.str (S [100,97,116,97]), .str (S nm), .str (S nm)] from (AW.cons (by decide) (AW.cons hnm (AW.cons hnm (AW.nil))))) (Nat.le_of_ble_eq_true rfl)
  walk_at "w"
  refine n_L (fun b45 G45 hb45 s45 e45 => ?_)
  have A45 := WA.snoc (m := 6) A44 s45 e45 (show AW [.str (S [100,97,116,97]), .str (S od), .str (S [61]), .str (S nm)] from (AW.cons (by decide) (AW.cons hod (AW.cons (by decide) (AW.cons hnm (AW.nil)))))) (Nat.le_of_ble_eq_true rfl)
  walk_at "w"
  refine n_L (fun b46 G46 hb46 s46 e46 => ?_)
  have A46 := WA.snoc (m := 6) A45 s46 e46 (show AW [.str (S [116,104,101,111,114,101,109]), .str (S nm), .str (S [61]), .str (S nm)] from (AW.cons (by decide) (AW.cons hnm (AW.cons (by decide) (AW.cons hnm (AW.nil)))))) (Nat.le_of_ble_eq_true rfl)
  walk_at "w"
  refine n_L (fun b47 G47 hb47 s47 e47 => ?_)
  have A47 := WA.same A46 s47
  refine n_cat ((((s44.tr s45).tr s46).tr s47) _ _ e43) e47 (Nat.le_of_ble_eq_true rfl) (fun b48 G48 hb48 s48 e48 => ?_)
  have A48 := WA.same (WA.append (WA.same A43 (((s44.tr s45).tr s46).tr s47)) A47) s48
  walk_at "w"
  refine n_L (fun b49 G49 hb49 s49 e49 => ?_)
  have A49 := WA.snoc (m := 6) (WA.nil 6 G48) s49 e49 (show AW [.str (S [116,104,101,111,114,101,109]), .str (S nm), .str (S [58])] from (AW.cons (by decide) (AW.cons hnm (AW.cons (by decide) (AW.nil))))) (Nat.le_of_ble_eq_true rfl)
  walk_at "w"
  refine n_L (fun b50 G50 hb50 s50 e50 => ?_)
  have A50 := WA.snoc (m := 6) A49 s50 e50 (show AW [.str (S [116,104,101,111,114,101,109]), .str (S nm), .str (S [58]), .str (S nm)] from (AW.cons (by decide) (AW.cons hnm (AW.cons (by decide) (AW.cons hnm (AW.nil)))))) (Nat.le_of_ble_eq_true rfl)
  walk_at "w"
  refine n_L (fun b51 G51 hb51 s51 e51 => ?_)
  have A51 := WA.snoc (m := 6) A50 s51 e51 (show AW [.str (S [116,104,101,111,114,101,109]), .str (S nm)] from (AW.cons (by decide) (AW.cons hnm (AW.nil)))) (Nat.le_of_ble_eq_true rfl)
  walk_at "w"
  refine n_L (fun b52 G52 hb52 s52 e52 => ?_)
  have A52 := WA.snoc (m := 6) A51 s52 e52 (show AW [.str (S [66,97,115,101]), .str (S nm)] from (AW.cons (by decide) (AW.cons hnm (AW.nil)))) (Nat.le_of_ble_eq_true rfl)
  walk_at "w"
  refine n_L (fun b53 G53 hb53 s53 e53 => ?_)
  have A53 := WA.same A52 s53
  refine n_cat (((((s49.tr s50).tr s51).tr s52).tr s53) _ _ e48) e53 (Nat.le_of_ble_eq_true rfl) (fun b54 G54 hb54 s54 e54 => ?_)
  have A54 := WA.same (WA.append (WA.same A48 ((((s49.tr s50).tr s51).tr s52).tr s53)) A53) s54
  walk_at "w"
  refine n_L (fun b55 G55 hb55 s55 e55 => ?_)
  have A55 := WA.snoc (m := 6) (WA.nil 6 G54) s55 e55 (show AW [.str (S [97,120,105,111,109]), .str (S nm), .str (S [58]), .str (S nm)] from (AW.cons (by decide) (AW.cons hnm (AW.cons (by decide) (AW.cons hnm (AW.nil)))))) (Nat.le_of_ble_eq_true rfl)
  walk_at "w"
  refine n_L (fun b56 G56 hb56 s56 e56 => ?_)
  have A56 := WA.snoc (m := 6) A55 s56 e56 (show AW [.str (S od)] from (AW.cons hod (AW.nil))) (Nat.le_of_ble_eq_true rfl)
  walk_at "w"
  refine n_L (fun b57 G57 hb57 s57 e57 => ?_)
  have A57 := WA.snoc (m := 6) A56 s57 e57 (show AW [.str (S nm)] from (AW.cons hnm (AW.nil))) (Nat.le_of_ble_eq_true rfl)
  walk_at "w"
  refine n_L (fun b58 G58 hb58 s58 e58 => ?_)
  have A58 := WA.snoc (m := 6) A57 s58 e58 (show AW [.str (S [113,101,100]), .str (S nm)] from (AW.cons (by decide) (AW.cons hnm (AW.nil)))) (Nat.le_of_ble_eq_true rfl)
  walk_at "w"
  refine n_L (fun b59 G59 hb59 s59 e59 => ?_)
  have A59 := WA.snoc (m := 6) A58 s59 e59 (show AW [.str (S [35]), .str (S nm)] from (AW.cons (by decide) (AW.cons hnm (AW.nil)))) (Nat.le_of_ble_eq_true rfl)
  walk_at "w"
  refine w_catT (szl (show 1 + nm.length ≤ 100 by omega)) ?_
  walk_at "w"
  refine n_L (fun b60 G60 hb60 s60 e60 => ?_)
  have A60 := WA.snoc (m := 6) A59 s60 e60 (show AW [.str (S ([35] ++ nm))] from (AW.cons (wd_l hnm hn16 (by decide)) (AW.nil))) (Nat.le_of_ble_eq_true rfl)
  walk_at "w"
  refine n_L (fun b61 G61 hb61 s61 e61 => ?_)
  have A61 := WA.same A60 s61
  refine n_cat (((((((s55.tr s56).tr s57).tr s58).tr s59).tr s60).tr s61) _ _ e54) e61 (Nat.le_of_ble_eq_true rfl) (fun b62 G62 hb62 s62 e62 => ?_)
  have A62 := WA.same (WA.append (WA.same A54 ((((((s55.tr s56).tr s57).tr s58).tr s59).tr s60).tr s61)) A61) s62
  walk_at "w"
  have sm := (((((((((((((((((((((((((((((((((((((((((((((((((((((((((((((s1.tr s2).tr s3).tr s4).tr s5).tr s6).tr s7).tr s8).tr s9).tr s10).tr s11).tr s12).tr s13).tr s14).tr s15).tr s16).tr s17).tr s18).tr s19).tr s20).tr s21).tr s22).tr s23).tr s24).tr s25).tr s26).tr s27).tr s28).tr s29).tr s30).tr s31).tr s32).tr s33).tr s34).tr s35).tr s36).tr s37).tr s38).tr s39).tr s40).tr s41).tr s42).tr s43).tr s44).tr s45).tr s46).tr s47).tr s48).tr s49).tr s50).tr s51).tr s52).tr s53).tr s54).tr s55).tr s56).tr s57).tr s58).tr s59).tr s60).tr s61).tr s62)
  refine w_lenL (SqL.of e62) ?_
  walk_at "w"
  refine ⟨_, _, rfl, a, c, _, _, rfl, rfl, Nat.le_of_ble_eq_true rfl, Nat.le_of_ble_eq_true rfl, P2.same sm, by omega, fun v H6 hv P6 k6 => ?_⟩
  obtain ⟨l, hl, hw⟩ := A62.get hv
  refine w_ixL (SqL.of (k6.1 _ _ (nip_refs A62.refs) e62)) hl ?_
  exact hQ l H6 (hw.keep k6) (P6.mono (by omega)) (((k1.trans k2).same sm).trans k6)

def sp_law_build : Sp := sp1 fun x H Q _ => ∃ (a c : Addr) (n : Nat), x = .ref a ∧ Pu a c n H ∧ n + 6000 ≤ LIM ∧ ∀ v H' (xs : List V), H' v = some (.lst xs) → RA 8 H' xs → xs.length ≤ 100 → 1 ≤ xs.length → Pu a c (n + 6000) H' → Keep H H' → Q (.ref v) H'
theorem ok_law_build (T : Txt w K mg) {fd : FuncData} (F : Fn_law_build K fd) (hm : mg "_law_build" = some (.ref (He.ga K "_law_build"))) (c_law_take : CalX P w K mg base CX0 2 "_law_take" sp_law_take) (c_law_name : CalX P w K mg base CX0 3 "_law_name" sp_law_name) (c_law_row : CalX P w K mg base CX0 3 "_law_row" sp_law_row) (c_law_remarks : CalX P w K mg base CX0 4 "_law_remarks" sp_law_remarks) (c_law_item_rows : CalX P w K mg base CX0 5 "_law_item_rows" sp_law_item_rows) : CalX P w K mg base CX0 6 "_law_build" sp_law_build := by
  refine calx0 (k := 5) F hm sc_law_build (b_law_build F) (fun _ _ _ _ h => sp1_len h) (fun cdv A outer s H vs Q E hr h => ?_)
  obtain ⟨x0, rfl, h⟩ := h
  refine ⟨_, (pss_cons (ps_set (i := 1) sc_law_build.nd rfl (Or.inl rfl) (pe_cx c_law_name hr (by decide) rfl pass0 (pa_cons (pv 0) pa_nil)))
    (pss_cons (ps_set (i := 2) sc_law_build.nd rfl (Or.inl rfl) (pe_op op_cat (pe_op op_cat (pe_cx c_law_remarks hr (by decide) rfl pass0 (pa_cons (pv 0) pa_nil)) (pe_lst (pa_cons (pe_cx c_law_row hr (by decide) rfl pass0 (pa_cons (pv 0) (pa_cons (pe_lst (pa_cons pe_str (pa_cons (pv 1) pa_nil))) pa_nil))) pa_nil))) (pe_cx c_law_remarks hr (by decide) rfl pass0 (pa_cons (pv 0) pa_nil))))
    (Evl.pss_cut (ps_if (pt_cmpR op_eq (pe_cx c_law_take hr (by decide) rfl pass0 (pa_cons (pv 0) (pa_cons pe_int pa_nil))) pe_int (nomark _))
    (pss_cons (ps_set (i := 3) sc_law_build.nd rfl (Or.inl rfl) (pe_lst (pa_cons pe_str pa_nil)))
    (pss_cons (ps_for PassesOwn.never rfl (pi_range1 (by rfl) T.f_range (pa_cons (pe_op op_addI pe_int (pe_cx c_law_take hr (by decide) rfl pass0 (pa_cons (pv 0) (pa_cons pe_int pa_nil)))) pa_nil)) (pg_name (i := 4) sc_law_build.nd rfl (Or.inl rfl))
    (pss_one (ps_expr (pe_bm PySem.F.plainAttrs_list PySem.F.slot_list_append PySem.F.type_list_append mt_append (pv 3) (pa_cons (pe_cx c_law_name hr (by decide) rfl pass0 (pa_cons (pv 0) pa_nil)) pa_nil)))))
    (pss_cons (ps_set (i := 3) sc_law_build.nd rfl (Or.inl rfl) (pe_op op_cat (pv 3) (pe_ix ix_list (pe_lst (pa_cons (pe_lst pa_nil) (pa_cons (pe_lst pa_nil) (pa_cons (pe_lst pa_nil) (pa_cons (pe_lst pa_nil) (pa_cons (pe_lst (pa_cons (pv 1) pa_nil)) (pa_cons (pe_slice sl_list (pv 3) (po_some pe_int) (po_some pe_int)) pa_nil))))))) (pe_cx c_law_take hr (by decide) rfl pass0 (pa_cons (pv 0) (pa_cons pe_int pa_nil))) (fun _ _ => rfl))))
    (pss_one (ps_expr (pe_bm PySem.F.plainAttrs_list PySem.F.slot_list_append PySem.F.type_list_append mt_append (pv 2) (pa_cons (pe_cx c_law_row hr (by decide) rfl pass0 (pa_cons (pv 0) (pa_cons (pv 3) pa_nil))) pa_nil)))))))
    pss_nil)
    (pss_cons (ps_for PassesOwn.never rfl (pi_range1 (by rfl) T.f_range (pa_cons (pe_cx c_law_take hr (by decide) rfl pass0 (pa_cons (pv 0) (pa_cons pe_int pa_nil))) pa_nil)) (pg_name (i := 4) sc_law_build.nd rfl (Or.inl rfl))
    (pss_one (ps_set (i := 2) sc_law_build.nd rfl (Or.inl rfl) (pe_op op_cat (pe_op op_cat (pv 2) (pe_cx c_law_remarks hr (by decide) rfl pass0 (pa_cons (pv 0) pa_nil))) (pe_cx c_law_item_rows hr (by decide) rfl pass0 (pa_cons (pv 0) pa_nil))))))
    (pss_one (ps_ret (pe_op op_cat (pv 2) (pe_cx c_law_remarks hr (by decide) rfl pass0 (pa_cons (pv 0) pa_nil))))))))), ?_⟩
  rw [show start ["purse", "own", "page", "words", "k"] [x0] = [some x0, none, none, none, none] from rfl]
  have ec0 : Str.ofString "leans" = S [108,101,97,110,115] := S_ofs (by decide +kernel)
  have ec1 : Str.ofString "book" = S [98,111,111,107] := S_ofs (by decide +kernel)
  rw [ec0, ec1]
  obtain ⟨a, c, n, rfl, hP, hL, hQ⟩ := h
  try dsimp only [cxOf]
  walk_at "w"
  refine ⟨_, rfl, a, c, n, rfl, hP, by omega, fun nm H1 hnm hn16 P1 k1 => ?_⟩
  walk_at "w"
  refine ⟨_, rfl, a, c, _, rfl, P1, by omega, fun p2 H2 x2 e2 R2 l2 P2 k2 => ?_⟩
  walk_at "w"
  refine n_L (fun p3 H3 hp3 s3 e3 => ?_)
  have A3 : AW [.str (S [98,111,111,107]), .str (S nm)] := AW.cons (by decide) (AW.cons hnm AW.nil)
  walk_at "w"
  refine ⟨_, _, rfl, a, c, _, 8, rfl, WL.of e3 A3 (Nat.le_of_ble_eq_true rfl), by omega, P2.same s3, by omega, fun y H4 hy P4 k4 => ?_⟩
  walk_at "w"
  refine n_L (fun p5 H5 hp5 s5 e5 => ?_)
  have e2' := s5 _ _ (k4.1 _ _ (nip_refs R2.refs) (s3 _ _ e2))
  refine n_cat e2' e5 (show x2.length + 1 ≤ 100000 by omega) (fun p6 H6 hp6 s6 e6 => ?_)
  have R6 := (((((R2.mono (by omega : 6 ≤ 8)).same s3).keep k4).same s5).append (RA.one ((Rg.same (nw_same _ _) hy).same s5))).same s6
  have k36 := ((k4.same s5).same s6)
  walk_at "w"
  refine ⟨_, rfl, a, c, _, rfl, (P4.same s5).same s6, by omega, fun p7 H7 x7 e7 R7 l7 P7 k7 => ?_⟩
  refine n_cat (k7.1 _ _ (nip_refs R6.refs) e6) e7 (show (x2 ++ [y]).length + x7.length ≤ 100000 by rw [List.length_append]; show x2.length + 1 + x7.length ≤ 100000; omega) (fun p8 H8 hp8 s8 e8 => ?_)
  have R7' := (R6.keep k7).append (R7.mono (by omega : 6 ≤ 8))
  have R8 := R7'.same (same_del s8 hp8)
  have K7 : Keep H H7 := ((((k1.trans k2).same s3).trans k36)).trans k7
  have K8 := K7.same s8
  have hfr : H p8 = none := K7.2 p8 hp8
  obtain ⟨na, nc⟩ := P7.ne hp8
  have P8 := P7.same s8
  have l8 : (x2 ++ [y] ++ x7).length ≤ 5 := by rw [List.length_append, List.length_append]; show x2.length + 1 + x7.length ≤ 5; omega
  have l8' : 1 ≤ (x2 ++ [y] ++ x7).length := by rw [List.length_append, List.length_append]; show 1 ≤ x2.length + 1 + x7.length; omega
  generalize x2 ++ [y] ++ x7 = x8 at e8 R8 l8 l8'
  clear R7' R7 R6 e7 e6 e5 e2' e2 R2 hy
  walk_at "w"
  refine w_mid (fun σ H' => ∃ (xs : List V) (v1 v2 v3 : Option V), σ = [some (.ref a), v1, some (.ref p8), v2, v3] ∧ H' p8 = some (.lst xs) ∧ RA 8 H' xs ∧ xs.length ≤ 6 ∧ 1 ≤ xs.length ∧ Pu a c (n + 1000) H' ∧ Keep H H') ?_ ?_
  · walk_at "w"
    refine ⟨_, _, rfl, a, c, _, 2, rfl, rfl, by omega, by omega, P8, by omega, fun v H9 hv P9 k9 => ?_⟩
    have R9 : RA 8 (del p8 H9) x8 := R8.keep (del_keep k9 ⟨x8, e8, nip_refs (R8.same (del_same _ _)).refs⟩)
    have e9 := k9.1 _ _ (nip_refs (R8.same (del_same _ _)).refs) e8
    have K9 := K8.trans k9
    walk_at "w"
    refine w_dec (fun h1 => ?_) (fun h1 => ?_)
    rotate_left
    · walk_at "w"
      exact ⟨_, _, _, _, rfl, e9, R9.same (del_same _ _), by omega, l8', P9.mono (by omega), K9⟩
    walk_at "w"
    refine n_L (fun pw H10 hpw s10 e10 => ?_)
    have A10 : AW [.str (S [108,101,97,110,115])] := AW.cons (by decide) AW.nil
    have hfw : H pw = none := K9.2 pw hpw
    have nw9 := P9.ne hpw
    have n8w : p8 ≠ pw := ne_of_none e9 hpw
    walk_at "w"
    refine ⟨_, _, rfl, a, c, _, 3, rfl, rfl, by omega, by omega, P9.same s10, by omega, fun u H11 hu P11 k11 => ?_⟩
    walk_at "w"
    refine w_rg1 (by omega) (by omega) ?_
    have k911 := ((Keep.refl H9).same s10).trans k11
    have n9 := nip_refs (R9.same (del_same _ _)).refs
    refine for_range (fun i σ H' => ∃ (ws : List V) (v : Option V), σ = [some (.ref a), some (.str (S nm)), some (.ref p8), some (.ref pw), v] ∧ H' pw = some (.lst ws) ∧ AW ws ∧ ws.length = 1 + i ∧ Pu a c (n + 500 + 4 * i) H' ∧ Keep H9 H')
      ⟨_, _, rfl, k11.1 _ _ A10.nip e10, A10, rfl, P11.mono (by omega), k911⟩ ?_ ?_
    · rintro i σ H' hi ⟨ws, v, rfl, q3, q4, q5, q6, q7⟩
      have hi : i < 3 := by omega
      dsimp only [gName]
      walk_at "w"
      refine n_lTy q3 ?_
      walk_at "w"
      refine ⟨_, rfl, a, c, _, rfl, q6, by omega, fun nm2 H12 hnm2 _ P12 k12 => ?_⟩
      walk_at "w"
      refine n_app (k12.1 _ _ q4.nip q3) (by omega) (fun H13 e13 x13 => ?_)
      walk_at "w"
      refine ⟨_, _, rfl, e13, q4.append (AW.cons hnm2 AW.nil), by rw [List.length_append, q5]; rfl, ?_, (q7.trans k12).ex hpw x13⟩
      have := P12.ex nw9.1 nw9.2 x13
      rw [show n + 500 + 4 * (i + 1) = n + 500 + 4 * i + 4 by omega]; exact this
    · rintro σ H' ⟨ws, v, rfl, q3, q4, q5, q6, q7⟩
      have lw : ws.length ≤ 4 := by omega
      have lw1 : 1 ≤ ws.length := by omega
      walk_at "w"
      refine n_L (fun b1 G1 hb1 s1 e1 => ?_)
      walk_at "w"
      refine n_L (fun b2 G2 hb2 s2 e2 => ?_)
      walk_at "w"
      refine n_L (fun b3 G3 hb3 s3 e3 => ?_)
      walk_at "w"
      refine n_L (fun b4 G4 hb4 s4 e4 => ?_)
      walk_at "w"
      refine n_L (fun b5 G5 hb5 s5 e5 => ?_)
      have sm5 := (((s1.tr s2).tr s3).tr s4).tr s5
      walk_at "w"
      refine n_mid (a := 1) (b := 2) (SqL.of (sm5 _ _ q3)) (fun b6 G6 hb6 s6 e6 => ?_)
      walk_at "w"
      refine n_L (fun b7 G7 hb7 s7 e7 => ?_)
      have B1 := WA.snoc (m := 1) (WA.nil 1 H') s1 e1 AW.nil (Nat.zero_le _)
      have B2 := WA.snoc B1 s2 e2 AW.nil (Nat.zero_le _)
      have B3 := WA.snoc B2 s3 e3 AW.nil (Nat.zero_le _)
      have B4 := WA.snoc B3 s4 e4 AW.nil (Nat.zero_le _)
      have B5 := WA.snoc B4 s5 e5 (show AW [.str (S nm)] from AW.cons hnm AW.nil) (Nat.le_refl _)
      have B6 := WA.snoc B5 s6 e6 (fun v hv => q4 v (List.mem_of_mem_drop (List.mem_of_mem_take hv))) (by rw [List.length_take]; omega)
      have B7 := B6.same s7
      have sm7 := (sm5.tr s6).tr s7
      walk_at "w"
      refine ⟨_, _, rfl, a, c, _, 6, rfl, rfl, by omega, by omega, q6.same sm7, by omega, fun z H14 hz P14 k14 => ?_⟩
      obtain ⟨l, hl, b0, us, rfl, hu1, hu2, hu3⟩ := B7.get (i := z) (show z < 6 by omega)
      refine w_ixL (SqL.of (k14.1 _ _ (nip_refs B7.refs) e7)) hl ?_
      refine n_cat (k14.1 _ _ q4.nip (sm7 _ _ q3)) (k14.1 _ _ (nip_ws us) hu1) (show ws.length + (Ws us).length ≤ 100000 by rw [ws_len]; omega) (fun b8 G8 hb8 s8 e8 => ?_)
      have A8 : AW (ws ++ Ws us) := q4.append (AW.of hu3)
      have K98 : Keep H9 G8 := ((q7.same sm7).trans k14).same s8
      have P8' := P14.same s8
      walk_at "w"
      refine n_lTy (K98.1 _ _ n9 e9) ?_
      walk_at "w"
      refine ⟨_, _, rfl, a, c, _, 8, rfl, WL.of e8 A8 (by rw [List.length_append, ws_len]; omega), by omega, P8', by omega, fun y H15 hy P15 k15 => ?_⟩
      walk_at "w"
      have K915 := K98.trans k15
      have e15 := K915.1 _ _ n9 e9
      have hd : Rg 8 (del p8 H15) y := Rg.same (nw_del (by rw [K98.1 _ _ n9 e9]; exact fun z => by cases z)) hy
      have R15 : RA 8 (del p8 H15) x8 := R9.keep (del_keep K915 ⟨x8, e9, n9⟩)
      refine n_app e15 (by omega) (fun H16 e16 x16 => ?_)
      walk_at "w"
      refine ⟨_, _, _, _, rfl, e16, ?_, by rw [List.length_append]; show x8.length + 1 ≤ 6; omega, by rw [List.length_append]; show 1 ≤ x8.length + 1; omega, (P15.ex na nc x16).mono (by omega), (K9.trans K915).ex hfr x16⟩
      have : RA 8 (del p8 H16) (x8 ++ [y]) := by rw [del_ex x16]; exact R15.append (RA.one hd)
      exact this.same (del_same _ _)
  · rintro σ H9 ⟨xs, v1, v2, v3, rfl, e9, R9, l9, l9', P9, K9⟩
    walk_at "w"
    refine ⟨_, _, rfl, a, c, _, 6, rfl, rfl, by omega, by omega, P9, by omega, fun u H10 hu P10 k10 => ?_⟩
    walk_at "w"
    refine w_rg1 (by omega) (by omega) ?_
    refine for_range (fun i σ H' => ∃ (q : Addr) (xs : List V) (v1 v2 v3 : Option V), σ = [some (.ref a), v1, some (.ref q), v2, v3] ∧ H' q = some (.lst xs) ∧ RA 8 H' xs ∧ xs.length ≤ 6 + 15 * i ∧ 1 ≤ xs.length ∧ Pu a c (n + 1001 + 800 * i) H' ∧ Keep H H')
      ⟨_, _, _, _, _, rfl, k10.1 _ _ (nip_refs R9.refs) e9, R9.keep k10, by omega, l9', P10.mono (by omega), K9.trans k10⟩ ?_ ?_
    · rintro i σ H' hi ⟨q, xs, v1, v2, v3, rfl, q1, q2, q3, q4, q5, q6⟩
      have hi : i < 5 := by omega
      dsimp only [gName]
      walk_at "w"
      refine ⟨_, rfl, a, c, _, rfl, q5, by omega, fun pr H13 xr e13 R13 l13 P13 k13 => ?_⟩
      refine n_cat (k13.1 _ _ (nip_refs q2.refs) q1) e13 (by omega) (fun p14 H14 hp14 s14 e14 => ?_)
      have R14 := ((q2.keep k13).append (R13.mono (by omega))).same s14
      walk_at "w"
      refine ⟨_, rfl, a, c, _, rfl, P13.same s14, by omega, fun p15 H15 x15 e15 R15 l15 P15 k15 => ?_⟩
      refine n_cat (k15.1 _ _ (nip_refs R14.refs) e14) e15 (by rw [List.length_append]; omega) (fun p16 H16 hp16 s16 e16 => ?_)
      have R16 := ((R14.keep k15).append R15).same s16
      walk_at "w"
      exact ⟨_, _, _, _, _, rfl, e16, R16, by rw [List.length_append, List.length_append]; omega, by rw [List.length_append, List.length_append]; omega, (P15.same s16).mono (by omega), (((q6.trans k13).same s14).trans k15).same s16⟩
    · rintro σ H' ⟨q, xs, v1, v2, v3, rfl, q1, q2, q3, q4, q5, q6⟩
      walk_at "w"
      refine ⟨_, rfl, a, c, _, rfl, q5, by omega, fun pr H13 xr e13 R13 l13 P13 k13 => ?_⟩
      refine n_cat (k13.1 _ _ (nip_refs q2.refs) q1) e13 (by omega) (fun p14 H14 hp14 s14 e14 => ?_)
      have R14 := ((q2.keep k13).append (R13.mono (by omega))).same s14
      exact hQ p14 H14 _ e14 R14 (by rw [List.length_append]; omega) (by rw [List.length_append]; omega) ((P13.same s14).mono (by omega)) ((q6.trans k13).same s14)

end
end K36

namespace K36
open PySem PySem.Spec PyProof.Rows L2 SX
local macro_rules | `(tactic| walk_at "w1") => `(tactic| (first
  | with_reducible refine w_seq ?_ | with_reducible refine w_asgN ?_ | with_reducible refine w_c ?_
  | ((with_reducible refine' w_var ?wv ?_); (case wv => exact rfl))
  | with_reducible refine w_op ?_ | with_reducible refine w_un ?_ | with_reducible refine w_next ?_ | with_reducible refine w_brk ?_ | with_reducible refine w_cnt ?_
  | with_reducible refine w_ifS ?_ | with_reducible refine w_if ?_ | with_reducible refine w_test ?_ | with_reducible refine w_tB ?_ | with_reducible refine w_bl ?_ | with_reducible refine w_blI ?_
  | with_reducible refine w_and ?_ | with_reducible refine w_or ?_ | with_reducible refine w_not ?_ | with_reducible refine w_andV ?_ | with_reducible refine w_orV ?_ | with_reducible refine w_notV ?_
  | with_reducible refine w_nil ?_ | with_reducible refine w_cons ?_ | with_reducible refine w_cb ?_ | with_reducible refine w_call ?_ | with_reducible refine w_callS ?_ | with_reducible refine w_chain ?_
  | with_reducible refine w_tupN ?_ | with_reducible refine w_lstN ?_ | with_reducible refine w_sl ?_ | with_reducible refine w_noPart ?_ | with_reducible refine w_part ?_ | with_reducible refine w_partI ?_
  | with_reducible refine w_ret ?_ | with_reducible refine w_retN ?_ | with_reducible refine w_drop ?_ | with_reducible refine w_asg ?_ | with_reducible refine w_gSub ?_
  | ((with_reducible refine' w_aug ?wv ?_); (case wv => exact rfl)) | with_reducible refine w_ipI ?_
  | with_reducible refine w_addI ?_ | with_reducible refine w_subI ?_ | with_reducible refine w_ltI ?_ | with_reducible refine w_leI ?_ | with_reducible refine w_gtI ?_ | with_reducible refine w_geI ?_
  | with_reducible refine w_eqI ?_ | with_reducible refine w_neI ?_ | with_reducible refine w_eqT ?_ | with_reducible refine w_neT ?_ | with_reducible refine w_inS ?_ | with_reducible refine w_ninS ?_
  | with_reducible refine w_absI ?_ | with_reducible refine w_intI ?_ | with_reducible refine w_maxI ?_ | with_reducible refine w_minI ?_
  | with_reducible refine w_for ?_ | with_reducible refine w_iR1 ?_ | with_reducible refine w_iR2 ?_ | with_reducible refine w_iStr ?_ | with_reducible refine w_strI ?_ | with_reducible refine w_iList ?_ | with_reducible refine w_iTup ?_
  | with_reducible refine w_bm ?_ | with_reducible refine w_bm0 ?_ | with_reducible refine w_t ?_ | with_reducible refine w_f ?_ | with_reducible refine w_nt ?_ | with_reducible refine w_nx ?_ | with_reducible refine w_rt ?_ | with_reducible refine w_bk ?_ | with_reducible refine w_ct ?_ | with_reducible refine w_nf ?_ | with_reducible refine w_lc ?_ | with_reducible refine w_yes ?_ | with_reducible refine w_neg ?_ | with_reducible refine w_intB ?_ | with_reducible refine w_fld ?_ | with_reducible refine w_setf ?_ | with_reducible refine w_faug ?_ | with_reducible refine w_meth ?_ | with_reducible refine w_bmS ?_ | with_reducible refine w_start ?_))
local macro_rules | `(tactic| walk_at "w") => `(tactic| (repeat (first | walk_at "w1" | dsimp (config := { proj := false }) only [List.set_cons_zero, List.set_cons_succ])))
section
variable {w : World} {K : PySem.W.Frag} {mg : Str → Option Value} {base : Heap}

theorem AW.take {xs : List V} (h : AW xs) (k : Nat) : AW (xs.take k) := fun v hv => h v (List.mem_of_mem_take hv)
theorem AW.drop {xs : List V} (h : AW xs) (k : Nat) : AW (xs.drop k) := fun v hv => h v (List.mem_of_mem_drop hv)
def sp_law_edit : Sp := sp2 fun x y H Q _ => ∃ (a c p : Addr) (n m : Nat) (xs : List V), x = .ref a ∧ y = .ref p ∧ H p = some (.lst xs) ∧ RA m H xs ∧ 6 ≤ m ∧ m ≤ 20 ∧ 1 ≤ xs.length ∧ xs.length ≤ 200 ∧ Pu a c n H ∧ n + 60 ≤ LIM ∧
  ∀ v H' (ys : List V), H' v = some (.lst ys) → RA (m + 1) H' ys → ys.length ≤ xs.length + 1 → Pu a c (n + 60) H' → Keep H H' → Q (.ref v) H'
theorem ok_law_edit (T : Txt w K mg) {fd : FuncData} (F : Fn_law_edit K fd) (hm : mg "_law_edit" = some (.ref (He.ga K "_law_edit"))) (c_law_take : CalX P w K mg base CX0 2 "_law_take" sp_law_take) (c_law_row : CalX P w K mg base CX0 3 "_law_row" sp_law_row) (c_law_odd_word : CalX P w K mg base CX0 3 "_law_odd_word" sp_law_odd_word) (c_law_other_words : CalX P w K mg base CX0 4 "_law_other_words" sp_law_other_words) : CalX P w K mg base CX0 5 "_law_edit" sp_law_edit := by
  refine calx0 (k := 4) F hm sc_law_edit (b_law_edit F) (fun _ _ _ _ h => sp2_len h) (fun cdv A outer s H vs Q E hr h => ?_)
  obtain ⟨x0, x1, rfl, h⟩ := h
  refine ⟨_, (pss_cons (ps_set (i := 2) sc_law_edit.nd rfl (Or.inl rfl) (pe_cx c_law_take hr (by decide) rfl pass0 (pa_cons (pv 0) (pa_cons pe_int pa_nil))))
    (pss_cons (ps_set (i := 3) sc_law_edit.nd rfl (Or.inl rfl) (pe_cx c_law_take hr (by decide) rfl pass0 (pa_cons (pv 0) (pa_cons (pe_callB call_lenQ (by rfl) T.f_len PySem.boot_len (pa_cons (pv 1) pa_nil)) pa_nil))))
    (pss_cons (ps_set (i := 4) sc_law_edit.nd rfl (Or.inl rfl) (pe_ix ix_list (pe_ix ix_list (pv 1) (pv 3) (fun _ _ => rfl)) pe_int (fun _ _ => rfl)))
    (pss_cons (ps_if (pt_cmpR op_eq (pv 2) pe_int (nomark _))
    (pss_one (ps_ret (pe_op op_cat (pe_slice sl_list (pv 1) po_none (po_some (pv 3))) (pe_slice sl_list (pv 1) (po_some (pe_op op_addI (pv 3) pe_int)) po_none))))
    pss_nil)
    (pss_cons (ps_if (pt_cmpR op_eq (pv 2) pe_int (nomark _))
    (pss_one (ps_ret (pe_op op_cat (pe_op op_cat (pe_slice sl_list (pv 1) po_none (po_some (pv 3))) (pe_lst (pa_cons (pe_cx c_law_row hr (by decide) rfl pass0 (pa_cons (pv 0) (pa_cons (pe_cx c_law_other_words hr (by decide) rfl pass0 (pa_cons (pv 0) pa_nil)) pa_nil))) pa_nil))) (pe_slice sl_list (pv 1) (po_some (pe_op op_addI (pv 3) pe_int)) po_none))))
    pss_nil)
    (pss_cons (ps_if (pt_cmpR op_eq (pv 2) pe_int (nomark _))
    (pss_one (ps_ret (pe_op op_cat (pe_op op_cat (pe_slice sl_list (pv 1) po_none (po_some (pv 3))) (pe_lst (pa_cons (pe_cx c_law_row hr (by decide) rfl pass0 (pa_cons (pv 0) (pa_cons (pe_cx c_law_other_words hr (by decide) rfl pass0 (pa_cons (pv 0) pa_nil)) pa_nil))) pa_nil))) (pe_slice sl_list (pv 1) (po_some (pv 3)) po_none))))
    pss_nil)
    (pss_cons (ps_if (pt_cmpR op_eq (pv 2) pe_int (nomark _))
    (pss_one (ps_ret (pe_op op_cat (pe_slice sl_list (pv 1) po_none (po_some (pe_op op_addI (pv 3) pe_int))) (pe_slice sl_list (pv 1) (po_some (pv 3)) po_none))))
    pss_nil)
    (pss_cons (ps_set (i := 5) sc_law_edit.nd rfl (Or.inl rfl) (pe_cx c_law_take hr (by decide) rfl pass0 (pa_cons (pv 0) (pa_cons (pe_op op_addI (pe_callB call_lenQ (by rfl) T.f_len PySem.boot_len (pa_cons (pv 4) pa_nil)) pe_int) pa_nil))))
    (pss_cons (ps_set (i := 6) sc_law_edit.nd rfl (Or.inl rfl) (pe_cx c_law_odd_word hr (by decide) rfl pass0 (pa_cons (pv 0) pa_nil)))
    (Evl.pss_cut (ps_if (pt_cmpR op_eq (pv 2) pe_int (nomark _))
    (pss_one (ps_set (i := 4) sc_law_edit.nd rfl (Or.inl rfl) (pe_op op_cat (pe_slice sl_list (pv 4) po_none (po_some (pv 5))) (pe_slice sl_list (pv 4) (po_some (pe_op op_addI (pv 5) pe_int)) po_none))))
    (pss_one (ps_if (pt_cmpR op_eq (pv 2) pe_int (nomark _))
    (pss_one (ps_set (i := 4) sc_law_edit.nd rfl (Or.inl rfl) (pe_op op_cat (pe_op op_cat (pe_slice sl_list (pv 4) po_none (po_some (pv 5))) (pe_lst (pa_cons (pv 6) pa_nil))) (pe_slice sl_list (pv 4) (po_some (pv 5)) po_none))))
    (pss_one (ps_set (i := 4) sc_law_edit.nd rfl (Or.inl rfl) (pe_op op_cat (pe_op op_cat (pe_slice sl_list (pv 4) po_none (po_some (pv 5))) (pe_lst (pa_cons (pv 6) pa_nil))) (pe_slice sl_list (pv 4) (po_some (pe_op op_addI (pv 5) pe_int)) po_none)))))))
    (pss_one (ps_ret (pe_op op_cat (pe_op op_cat (pe_slice sl_list (pv 1) po_none (po_some (pv 3))) (pe_lst (pa_cons (pe_cx c_law_row hr (by decide) rfl pass0 (pa_cons (pv 0) (pa_cons (pv 4) pa_nil))) pa_nil))) (pe_slice sl_list (pv 1) (po_some (pe_op op_addI (pv 3) pe_int)) po_none)))))))))))))), ?_⟩
  rw [show start ["purse", "page", "way", "at", "words", "place", "word"] [x0, x1] = [some x0, some x1, none, none, none, none, none] from rfl]
  obtain ⟨a, c, p, n, m, xs, rfl, rfl, hp, hR, hm6, hm, hl1, hl2, hP, hL, hQ⟩ := h
  try dsimp only [cxOf]
  walk_at "w"
  refine ⟨_, _, rfl, a, c, n, 7, rfl, rfl, by omega, by omega, hP, by omega, fun way H1 hway P1 k1 => ?_⟩
  walk_at "w"
  have e1 := k1.1 _ _ (nip_refs hR.refs) hp
  refine w_lenL (SqL.of e1) ?_
  walk_at "w"
  refine ⟨_, _, rfl, a, c, _, xs.length, rfl, rfl, by omega, by omega, P1, by omega, fun at_ H2 hat P2 k2 => ?_⟩
  walk_at "w"
  have K2 := k1.trans k2
  have e2 := K2.1 _ _ (nip_refs hR.refs) hp
  have R2 := hR.keep K2
  have hat' : at_ < xs.length := by omega
  obtain ⟨⟨ws, ps⟩, ⟨b1, b2, b3, z1, z2, z3, z4⟩, hwl, hwd, _⟩ := R2 _ (List.getElem_mem hat')
  refine w_ixL (SqL.of e2) (List.getElem?_eq_getElem hat') ?_
  rw [z1]
  walk_at "w"
  refine w_ixL (n := 0) (SqL.of z2) rfl ?_
  walk_at "w"
  dsimp only at hwl hwd z3
  refine w_dec (fun h0 => ?_) (fun h0 => ?_)
  · walk_at "w"
    refine n_to (SqL.of e2) (fun q1 G1 hq1 s1 d1 => ?_)
    walk_at "w"
    rw [show (at_ : Int) + 1 = ((at_ + 1 : Nat) : Int) by omega]
    refine n_from (SqL.of (s1 _ _ e2)) (fun q2 G2 hq2 s2 d2 => ?_)
    refine n_cat (s2 _ _ d1) d2 (by rw [List.length_take, List.length_drop]; omega) (fun q3 G3 hq3 s3 d3 => ?_)
    have sm := (s1.tr s2).tr s3
    exact hQ q3 G3 _ d3 ((((R2.take at_).append (R2.drop (at_ + 1))).same sm).mono (Nat.le_succ m)) (by rw [List.length_append, List.length_take, List.length_drop]; omega) ((P2.same sm).mono (by omega)) (K2.same sm)
  walk_at "w"
  refine w_dec (fun h1 => ?_) (fun h1 => ?_)
  · skip
    walk_at "w"
    refine n_to (SqL.of e2) (fun q1 G1 hq1 s1 d1 => ?_)
    walk_at "w"
    refine ⟨_, rfl, a, c, _, rfl, P2.same s1, by omega, fun ow G2 how Q2 j2 => ?_⟩
    walk_at "w"
    refine ⟨_, _, rfl, a, c, _, 6, rfl, how, by omega, Q2, by omega, fun y G3 hy Q3 j3 => ?_⟩
    walk_at "w"
    refine n_L (fun q4 G4 hq4 s4 d4 => ?_)
    have j13 := j2.trans j3
    have n1 := nip_refs (R2.take at_).refs
    refine n_cat (s4 _ _ (j13.1 _ _ n1 d1)) d4 (show (xs.take at_).length + 1 ≤ 100000 by rw [List.length_take]; omega) (fun q5 G5 hq5 s5 d5 => ?_)
    have k25 := (((((Keep.refl H2).same s1).trans j13).same s4).same s5)
    walk_at "w"
    rw [show (at_ : Int) + 1 = ((at_ + 1 : Nat) : Int) by omega]
    refine n_from (SqL.of (k25.1 _ _ (nip_refs R2.refs) e2)) (fun q6 G6 hq6 s6 d6 => ?_)
    refine n_cat (s6 _ _ d5) d6 (show (xs.take at_ ++ [y]).length + (xs.drop (at_ + 1)).length ≤ 100000 by rw [List.length_append, List.length_take, List.length_drop]; show min at_ xs.length + 1 + _ ≤ _; omega) (fun q7 G7 hq7 s7 d7 => ?_)
    have RR : RA (m + 1) G7 (xs.take at_ ++ [y] ++ xs.drop (at_ + 1)) := (((((R2.take at_).mono (Nat.le_succ m)).keep (k25.same s6)).append (RA.one (((((Rg.same (nw_same _ _) hy).mono (by omega : 6 ≤ m + 1)).same s4).same s5).same s6))).append (((R2.drop (at_ + 1)).mono (Nat.le_succ m)).keep (k25.same s6))).same s7
    exact hQ q7 G7 _ d7 RR (by rw [List.length_append, List.length_append, List.length_take, List.length_drop]; show min at_ xs.length + 1 + _ ≤ _; omega) (((((Q3.same s4).same s5).same s6).same s7).mono (by omega)) ((K2.trans k25).same s6 |>.same s7)
  walk_at "w"
  refine w_dec (fun h2 => ?_) (fun h2 => ?_)
  · skip
    walk_at "w"
    refine n_to (SqL.of e2) (fun q1 G1 hq1 s1 d1 => ?_)
    walk_at "w"
    refine ⟨_, rfl, a, c, _, rfl, P2.same s1, by omega, fun ow G2 how Q2 j2 => ?_⟩
    walk_at "w"
    refine ⟨_, _, rfl, a, c, _, 6, rfl, how, by omega, Q2, by omega, fun y G3 hy Q3 j3 => ?_⟩
    walk_at "w"
    refine n_L (fun q4 G4 hq4 s4 d4 => ?_)
    have j13 := j2.trans j3
    have n1 := nip_refs (R2.take at_).refs
    refine n_cat (s4 _ _ (j13.1 _ _ n1 d1)) d4 (show (xs.take at_).length + 1 ≤ 100000 by rw [List.length_take]; omega) (fun q5 G5 hq5 s5 d5 => ?_)
    have k25 := (((((Keep.refl H2).same s1).trans j13).same s4).same s5)
    walk_at "w"
    refine n_from (SqL.of (k25.1 _ _ (nip_refs R2.refs) e2)) (fun q6 G6 hq6 s6 d6 => ?_)
    refine n_cat (s6 _ _ d5) d6 (show (xs.take at_ ++ [y]).length + (xs.drop (at_)).length ≤ 100000 by rw [List.length_append, List.length_take, List.length_drop]; show min at_ xs.length + 1 + _ ≤ _; omega) (fun q7 G7 hq7 s7 d7 => ?_)
    have RR : RA (m + 1) G7 (xs.take at_ ++ [y] ++ xs.drop (at_)) := (((((R2.take at_).mono (Nat.le_succ m)).keep (k25.same s6)).append (RA.one (((((Rg.same (nw_same _ _) hy).mono (by omega : 6 ≤ m + 1)).same s4).same s5).same s6))).append (((R2.drop (at_)).mono (Nat.le_succ m)).keep (k25.same s6))).same s7
    exact hQ q7 G7 _ d7 RR (by rw [List.length_append, List.length_append, List.length_take, List.length_drop]; show min at_ xs.length + 1 + _ ≤ _; omega) (((((Q3.same s4).same s5).same s6).same s7).mono (by omega)) ((K2.trans k25).same s6 |>.same s7)
  walk_at "w"
  refine w_dec (fun h3 => ?_) (fun h3 => ?_)
  · walk_at "w"
    rw [show (at_ : Int) + 1 = ((at_ + 1 : Nat) : Int) by omega]
    refine n_to (SqL.of e2) (fun q1 G1 hq1 s1 d1 => ?_)
    walk_at "w"
    refine n_from (SqL.of (s1 _ _ e2)) (fun q2 G2 hq2 s2 d2 => ?_)
    refine n_cat (s2 _ _ d1) d2 (by rw [List.length_take, List.length_drop]; omega) (fun q3 G3 hq3 s3 d3 => ?_)
    have sm := (s1.tr s2).tr s3
    exact hQ q3 G3 _ d3 ((((R2.take (at_ + 1)).append (R2.drop at_)).same sm).mono (Nat.le_succ m)) (by rw [List.length_append, List.length_take, List.length_drop]; omega) ((P2.same sm).mono (by omega)) (K2.same sm)
  walk_at "w"
  refine w_lenL (SqL.of z3) ?_
  walk_at "w"
  refine ⟨_, _, rfl, a, c, _, ws.length + 1, rfl, by rw [ws_len]; rfl, by omega, by omega, P2, by omega, fun pl H3 hpl P3 k3 => ?_⟩
  walk_at "w"
  refine ⟨_, rfl, a, c, _, rfl, P3, by omega, fun od H4 hod P4 k4 => ?_⟩
  walk_at "w"
  have k24 := k3.trans k4
  have ew := k24.1 _ _ (nip_ws ws) z3
  have Aw : AW (Ws ws) := AW.of hwd
  have hplw : pl ≤ ws.length := by omega
  refine w_mid (fun σ H' => ∃ (q : Addr) (us : List V) (v1 v2 v3 : Option V), σ = [some (.ref a), some (.ref p), v1, some (.int (at_ : Int)), some (.ref q), v2, v3] ∧ H' q = some (.lst us) ∧ AW us ∧ us.length ≤ m + 1 ∧ Pu a c (n + 1 + 1 + 1 + 1) H' ∧ Keep H2 H') ?_ ?_
  · walk_at "w"
    refine w_dec (fun h4 => ?_) (fun h4 => ?_)
    · skip
      walk_at "w"
      refine n_to (SqL.of ew) (fun q1 G1 hq1 s1 d1 => ?_)
      walk_at "w"
      rw [show (pl : Int) + 1 = ((pl + 1 : Nat) : Int) by omega]
      refine n_from (SqL.of (s1 _ _ ew)) (fun q2 G2 hq2 s2 d2 => ?_)
      refine n_cat (s2 _ _ d1) d2 (by rw [List.length_take, List.length_drop, ws_len]; omega) (fun q3 G3 hq3 s3 d3 => ?_)
      walk_at "w"
      exact ⟨q3, _, _, _, _, rfl, d3, (Aw.take pl).append (Aw.drop (pl + 1)), by rw [List.length_append, List.length_take, List.length_drop, ws_len]; omega, P4.same ((s1.tr s2).tr s3), k24.same ((s1.tr s2).tr s3)⟩
    walk_at "w"
    refine w_dec (fun h5 => ?_) (fun h5 => ?_)
    · skip
      walk_at "w"
      refine n_to (SqL.of ew) (fun q1 G1 hq1 s1 d1 => ?_)
      walk_at "w"
      refine n_L (fun q2 G2 hq2 s2 d2 => ?_)
      refine n_cat (s2 _ _ d1) d2 (by rw [List.length_take, ws_len]; show _ + 1 ≤ 100000; omega) (fun q3 G3 hq3 s3 d3 => ?_)
      walk_at "w"
      refine n_from (SqL.of (s3 _ _ (s2 _ _ (s1 _ _ ew)))) (fun q4 G4 hq4 s4 d4 => ?_)
      refine n_cat (s4 _ _ d3) d4 (by rw [List.length_append, List.length_take, List.length_drop, ws_len]; show _ + 1 + _ ≤ 100000; omega) (fun q5 G5 hq5 s5 d5 => ?_)
      walk_at "w"
      exact ⟨q5, _, _, _, _, rfl, d5, ((Aw.take pl).append (AW.cons hod AW.nil)).append (Aw.drop (pl)), by rw [List.length_append, List.length_append, List.length_take, List.length_drop, ws_len]; show _ + 1 + _ ≤ _; omega, P4.same ((((s1.tr s2).tr s3).tr s4).tr s5), k24.same ((((s1.tr s2).tr s3).tr s4).tr s5)⟩
    walk_at "w"
    refine n_to (SqL.of ew) (fun q1 G1 hq1 s1 d1 => ?_)
    walk_at "w"
    refine n_L (fun q2 G2 hq2 s2 d2 => ?_)
    refine n_cat (s2 _ _ d1) d2 (by rw [List.length_take, ws_len]; show _ + 1 ≤ 100000; omega) (fun q3 G3 hq3 s3 d3 => ?_)
    walk_at "w"
    rw [show (pl : Int) + 1 = ((pl + 1 : Nat) : Int) by omega]
    refine n_from (SqL.of (s3 _ _ (s2 _ _ (s1 _ _ ew)))) (fun q4 G4 hq4 s4 d4 => ?_)
    refine n_cat (s4 _ _ d3) d4 (by rw [List.length_append, List.length_take, List.length_drop, ws_len]; show _ + 1 + _ ≤ 100000; omega) (fun q5 G5 hq5 s5 d5 => ?_)
    walk_at "w"
    exact ⟨q5, _, _, _, _, rfl, d5, ((Aw.take pl).append (AW.cons hod AW.nil)).append (Aw.drop (pl + 1)), by rw [List.length_append, List.length_append, List.length_take, List.length_drop, ws_len]; show _ + 1 + _ ≤ _; omega, P4.same ((((s1.tr s2).tr s3).tr s4).tr s5), k24.same ((((s1.tr s2).tr s3).tr s4).tr s5)⟩
  rintro σ H5 ⟨q, us, v1, v2, v3, rfl, eu, Au, lu, P5, k5⟩
  have K5 := K2.trans k5
  have e5 := k5.1 _ _ (nip_refs R2.refs) e2
  have R5 := R2.keep k5
  walk_at "w"
  refine n_to (SqL.of e5) (fun q1 G1 hq1 s1 d1 => ?_)
  walk_at "w"
  refine ⟨_, _, rfl, a, c, _, m + 1, rfl, WL.of (s1 _ _ eu) Au lu, by omega, P5.same s1, by omega, fun y G3 hy Q3 j3 => ?_⟩
  walk_at "w"
  refine n_L (fun q4 G4 hq4 s4 d4 => ?_)
  have n1 := nip_refs (R5.take at_).refs
  refine n_cat (s4 _ _ (j3.1 _ _ n1 d1)) d4 (show (xs.take at_).length + 1 ≤ 100000 by rw [List.length_take]; omega) (fun q5 G5 hq5 s5 d5 => ?_)
  have k25 := ((((Keep.refl H5).same s1).trans j3).same s4).same s5
  walk_at "w"
  rw [show (at_ : Int) + 1 = ((at_ + 1 : Nat) : Int) by omega]
  refine n_from (SqL.of (k25.1 _ _ (nip_refs R5.refs) e5)) (fun q6 G6 hq6 s6 d6 => ?_)
  refine n_cat (s6 _ _ d5) d6 (show (xs.take at_ ++ [y]).length + (xs.drop (at_ + 1)).length ≤ 100000 by rw [List.length_append, List.length_take, List.length_drop]; show min at_ xs.length + 1 + _ ≤ _; omega) (fun q7 G7 hq7 s7 d7 => ?_)
  have RR : RA (m + 1) G7 (xs.take at_ ++ [y] ++ xs.drop (at_ + 1)) := (((((R5.take at_).mono (Nat.le_succ m)).keep (k25.same s6)).append (RA.one ((((Rg.same (nw_same _ _) hy).same s4).same s5).same s6))).append (((R5.drop (at_ + 1)).mono (Nat.le_succ m)).keep (k25.same s6))).same s7
  exact hQ q7 G7 _ d7 RR (by rw [List.length_append, List.length_append, List.length_take, List.length_drop]; show min at_ xs.length + 1 + _ ≤ _; omega) (((((Q3.same s4).same s5).same s6).same s7).mono (by omega)) ((K5.trans k25).same s6 |>.same s7)

end
end K36

namespace K36
open PySem PySem.Spec PyProof.Rows L2 SX
local macro_rules | `(tactic| walk_at "w1") => `(tactic| (first
  | with_reducible refine w_seq ?_ | with_reducible refine w_asgN ?_ | with_reducible refine w_c ?_
  | ((with_reducible refine' w_var ?wv ?_); (case wv => exact rfl))
  | with_reducible refine w_op ?_ | with_reducible refine w_un ?_ | with_reducible refine w_next ?_ | with_reducible refine w_brk ?_ | with_reducible refine w_cnt ?_
  | with_reducible refine w_ifS ?_ | with_reducible refine w_if ?_ | with_reducible refine w_test ?_ | with_reducible refine w_tB ?_ | with_reducible refine w_bl ?_ | with_reducible refine w_blI ?_
  | with_reducible refine w_and ?_ | with_reducible refine w_or ?_ | with_reducible refine w_not ?_ | with_reducible refine w_andV ?_ | with_reducible refine w_orV ?_ | with_reducible refine w_notV ?_
  | with_reducible refine w_nil ?_ | with_reducible refine w_cons ?_ | with_reducible refine w_cb ?_ | with_reducible refine w_call ?_ | with_reducible refine w_callS ?_ | with_reducible refine w_chain ?_
  | with_reducible refine w_tupN ?_ | with_reducible refine w_lstN ?_ | with_reducible refine w_sl ?_ | with_reducible refine w_noPart ?_ | with_reducible refine w_part ?_ | with_reducible refine w_partI ?_
  | with_reducible refine w_ret ?_ | with_reducible refine w_retN ?_ | with_reducible refine w_drop ?_ | with_reducible refine w_asg ?_ | with_reducible refine w_gSub ?_
  | ((with_reducible refine' w_aug ?wv ?_); (case wv => exact rfl)) | with_reducible refine w_ipI ?_
  | with_reducible refine w_addI ?_ | with_reducible refine w_subI ?_ | with_reducible refine w_ltI ?_ | with_reducible refine w_leI ?_ | with_reducible refine w_gtI ?_ | with_reducible refine w_geI ?_
  | with_reducible refine w_eqI ?_ | with_reducible refine w_neI ?_ | with_reducible refine w_eqT ?_ | with_reducible refine w_neT ?_ | with_reducible refine w_inS ?_ | with_reducible refine w_ninS ?_
  | with_reducible refine w_absI ?_ | with_reducible refine w_intI ?_ | with_reducible refine w_maxI ?_ | with_reducible refine w_minI ?_
  | with_reducible refine w_for ?_ | with_reducible refine w_iR1 ?_ | with_reducible refine w_iR2 ?_ | with_reducible refine w_iStr ?_ | with_reducible refine w_strI ?_ | with_reducible refine w_iList ?_ | with_reducible refine w_iTup ?_
  | with_reducible refine w_bm ?_ | with_reducible refine w_bm0 ?_ | with_reducible refine w_t ?_ | with_reducible refine w_f ?_ | with_reducible refine w_nt ?_ | with_reducible refine w_nx ?_ | with_reducible refine w_rt ?_ | with_reducible refine w_bk ?_ | with_reducible refine w_ct ?_ | with_reducible refine w_nf ?_ | with_reducible refine w_lc ?_ | with_reducible refine w_yes ?_ | with_reducible refine w_neg ?_ | with_reducible refine w_intB ?_ | with_reducible refine w_fld ?_ | with_reducible refine w_setf ?_ | with_reducible refine w_faug ?_ | with_reducible refine w_meth ?_ | with_reducible refine w_bmS ?_ | with_reducible refine w_start ?_))
local macro_rules | `(tactic| walk_at "w") => `(tactic| (repeat (first | walk_at "w1" | dsimp (config := { proj := false }) only [List.set_cons_zero, List.set_cons_succ])))
section
variable {w : World} {K : PySem.W.Frag} {mg : Str → Option Value} {base : Heap}

/-- a row as the judge and the program meet it -/
def Rs (H : Hp) (v : V) : Prop := ∃ r : Row, RowV H v r ∧ Good r ∧ Fit r
theorem Rs.same {H H' : Hp} {v : V} (k : Same H H') (h : Rs H v) : Rs H' v := by
  obtain ⟨r, h1, h2⟩ := h; exact ⟨r, h1.same k, h2⟩
theorem Rs.keep {H H' : Hp} {v : V} (k : Keep H H') (h : Rs H v) : Rs H' v := by
  obtain ⟨r, h1, h2⟩ := h; exact ⟨r, h1.keep k, h2⟩
theorem tx_bound : ∀ (ws : List (List Nat)) (ps : List Nat), (∀ p ∈ ps, p ≤ 10) → (tx ws ps).length ≤ (ws.map List.length).sum + 10 * ws.length
  | [], _, _ => Nat.zero_le _
  | w :: r, p :: ps, h => by
    have h1 := tx_bound r ps fun p hp => h p (List.mem_cons_of_mem _ hp)
    have h2 := h p List.mem_cons_self
    show (w ++ (rep p ++ tx r ps)).length ≤ _
    rw [List.length_append, List.length_append, show (rep p).length = p from List.length_replicate, List.map_cons, List.sum_cons, List.length_cons]
    omega
  | w :: r, [], h => by
    have h1 := tx_bound r [] h
    show (w ++ tx r []).length ≤ _
    rw [List.length_append, List.map_cons, List.sum_cons, List.length_cons]
    omega
theorem sum_bound : ∀ (ws : List (List Nat)) (k : Nat), (∀ w ∈ ws, w.length ≤ k) → (ws.map List.length).sum ≤ k * ws.length
  | [], _, _ => Nat.zero_le _
  | w :: r, k, h => by
    have h1 := sum_bound r k fun w hw => h w (List.mem_cons_of_mem _ hw)
    have h2 := h w List.mem_cons_self
    rw [List.map_cons, List.sum_cons, List.length_cons, Nat.mul_succ]
    omega
theorem text_bound {r : Row} (h : ∀ p ∈ r.2, p ≤ 10) : (textOf r).length ≤ 10 + ((r.1.map List.length).sum + 10 * r.1.length) := by
  unfold textOf
  have h1 := tx_bound r.1 (r.2.drop 1) fun p hp => h p (List.mem_of_mem_drop hp)
  rw [List.length_append, show (rep (r.2.headD 0)).length = r.2.headD 0 from List.length_replicate]
  have h2 : r.2.headD 0 ≤ 10 := by
    cases e : r.2 with
    | nil => exact Nat.zero_le _
    | cons p ps => exact h p (by rw [e]; exact List.mem_cons_self)
  omega
theorem wd_gw {w : List Nat} (h : Wd w) : Gw w := ⟨h.1, h.2.2⟩
theorem Rg.rs {n : Nat} {H : Hp} {v : V} (h : Rg n H v) (hn : n ≤ 40) : Rs H v := by
  obtain ⟨r, h1, h2, h3, h4, h5, h6⟩ := h
  refine ⟨r, h1, ⟨fun w hw => wd_gw (h3 w hw), h4, h5⟩, by omega, by omega, ?_⟩
  have h7 := text_bound h6
  have h8 := sum_bound r.1 40 fun w hw => (h3 w hw).2.1
  omega
def sp_law_stretched : Sp := sp2 fun x y H Q _ => ∃ (a c : Addr) (n m : Nat), x = .ref a ∧ Rg m H y ∧ m ≤ 20 ∧ Pu a c n H ∧ n + 10 ≤ LIM ∧ ∀ v H', Rs H' v → Pu a c (n + 10) H' → Keep H H' → Q v H'
theorem ok_law_stretched (T : Txt w K mg) {fd : FuncData} (F : Fn_law_stretched K fd) (hm : mg "_law_stretched" = some (.ref (He.ga K "_law_stretched"))) (c_law_take : CalX P w K mg base CX0 2 "_law_take" sp_law_take) (c_law_text_of : CalX P w K mg base CX0 1 "_law_text_of" sp_law_text_of) : CalX P w K mg base CX0 3 "_law_stretched" sp_law_stretched := by
  refine calx0 (k := 2) F hm sc_law_stretched (b_law_stretched F) (fun _ _ _ _ h => sp2_len h) (fun cdv A outer s H vs Q E hr h => ?_)
  obtain ⟨x0, x1, rfl, h⟩ := h
  refine ⟨_, (pss_cons (ps_set (i := 2) sc_law_stretched.nd rfl (Or.inl rfl) (pe_ix ix_list (pe_lst (pa_cons pe_int (pa_cons pe_int (pa_cons pe_int pa_nil)))) (pe_cx c_law_take hr (by decide) rfl pass0 (pa_cons (pv 0) (pa_cons pe_int pa_nil))) (fun _ _ => rfl)))
    (pss_cons (ps_set (i := 3) sc_law_stretched.nd rfl (Or.inl rfl) (pe_callTy call_lstQ (by rfl) T.f_list (by decide +kernel) (pa_cons (pe_ix ix_list (pv 1) pe_int (fun _ _ => rfl)) pa_nil)))
    (Evl.pss_cut (ps_if (pt_cmpR (op_eqD hr.units) (pv 3) (pe_lst pa_nil) (nomark _))
    (pss_one (ps_set (i := 3) sc_law_stretched.nd rfl (Or.inl rfl) (pe_lst (pa_cons pe_str pa_nil))))
    pss_nil)
    (Evl.pss_cut (ps_if (pt_cmpR op_eq (pe_ix ix_str (pe_ix ix_list (pv 3) pe_int (fun _ _ => rfl)) pe_int (fun _ _ => rfl)) pe_str (nomark _))
    (pss_one (ps_set (i := 2) sc_law_stretched.nd rfl (Or.inl rfl) pe_int))
    pss_nil)
    (pss_cons (ps_set (i := 4) sc_law_stretched.nd rfl (Or.inl rfl) (pe_op op_cat (pe_op op_cat (pe_lst (pa_cons pe_int pa_nil)) (pe_lc (own := [("word", 6)]) (g := gName 6) (tt := tYes) (by rfl) sc_law_stretched.nd (pi_list (pv 3)) (blkOk_by (own := [("word", 6)]) (N := ["purse", "row", "size", "words", "pads", "bare", "word"]) (sc := defScope s_law_stretched) (by decide +kernel)) (fun _ _ _ _ _ => pg_name (i := 6) sc_law_stretched.nd rfl (Or.inl rfl)) (fun _ _ _ _ _ => pts_nil) (fun _ _ _ _ _ => pe_int))) (pe_lst (pa_cons pe_int pa_nil))))
    (pss_cons (ps_set (i := 5) sc_law_stretched.nd rfl (Or.inl rfl) (pe_callB call_lenT (by rfl) T.f_len PySem.boot_len (pa_cons (pe_cx c_law_text_of hr (by decide) rfl pass0 (pa_cons (pe_lst (pa_cons (pv 3) (pa_cons (pv 4) pa_nil))) pa_nil)) pa_nil)))
    (pss_one (ps_ret (pe_lst (pa_cons (pe_op op_cat (pv 3) (pe_lst (pa_cons (pe_op op_repS pe_str (pe_op op_subI (pv 2) (pv 5))) pa_nil))) (pa_cons (pv 4) pa_nil))))))))))), ?_⟩
  rw [show start ["purse", "row", "size", "words", "pads", "bare", "word"] [x0, x1] = [some x0, some x1, none, none, none, none, none] from rfl]
  obtain ⟨a, c, n, m, rfl, ⟨⟨ws, ps⟩, ⟨b1, b2, b3, rfl, z2, z3, z4⟩, hwl, hwd, _⟩, hm, hP, hL, hQ⟩ := h
  dsimp only at hwl hwd z3
  have ec1 : Str.ofString "#" = S [35] := S_ofs (by decide +kernel)
  have ec2 : Str.ofString "a" = S [97] := S_ofs (by decide +kernel)
  rw [ec1, ec2]
  try dsimp only [cxOf]
  walk_at "w"
  refine n_L (fun p1 H1 hp1 s1 e1 => ?_)
  walk_at "w"
  refine ⟨_, _, rfl, a, c, n, 3, rfl, rfl, by omega, by omega, hP.same s1, by omega, fun u H2 hu P2 k2 => ?_⟩
  obtain ⟨sz, hs1, hs2, hs3⟩ : ∃ sz : Nat, (Is [2000, 2001, 2400])[u]? = some (.int (sz : Int)) ∧ 2000 ≤ sz ∧ sz ≤ 2400 := by
    have hu' : u < 3 := by omega
    match u, hu' with
    | 0, _ => exact ⟨2000, rfl, by omega, by omega⟩
    | 1, _ => exact ⟨2001, rfl, by omega, by omega⟩
    | 2, _ => exact ⟨2400, rfl, by omega, by omega⟩
  refine w_ixL (SqL.of (k2.1 _ _ (nip_is [2000, 2001, 2400]) e1)) hs1 ?_
  have K2 := ((Keep.refl H).same s1).trans k2
  walk_at "w"
  refine w_ixL (n := 0) (SqL.of (K2.1 _ _ (nip_2 _ _) z2)) rfl ?_
  walk_at "w"
  refine n_lst (SqL.of (K2.1 _ _ (nip_ws ws) z3)) (fun p3 H3 hp3 s3 e3 => ?_)
  have cok : ∀ {us : List (List Nat)}, (∀ w ∈ us, Wd w) → ∀ w ∈ us, Cok w := fun h w hw c hc => ((h w hw).2.2 c hc).2.2
  walk_at "w"
  refine w_mid (fun σ H' => ∃ (q : Addr) (us : List (List Nat)), σ = [some (.ref a), some (.ref b1), some (.int (sz : Int)), some (.ref q), none, none, none] ∧ H' q = some (.lst (Ws us)) ∧ (∀ w ∈ us, Wd w) ∧ us ≠ [] ∧ us.length ≤ 20 ∧ Same H3 H') ?_ ?_
  · walk_at "w"
    refine n_L (fun p4 H4 hp4 s4 e4 => ?_)
    refine w_eqW (ws := ws) (vs := []) (SqL.of (s4 _ _ e3)) (SqL.of e4) (cok hwd) (fun w hw => by cases hw) ?_
    walk_at "w"
    refine w_dec (fun h1 => ?_) (fun h1 => ?_)
    · walk_at "w"
      refine n_L (fun p5 H5 hp5 s5 e5 => ?_)
      walk_at "w"
      exact ⟨p5, [[35]], rfl, e5, by decide, by decide, Nat.le_of_ble_eq_true rfl, s4.tr s5⟩
    · walk_at "w"
      exact ⟨p3, ws, rfl, s4 _ _ e3, hwd, h1, by omega, s4⟩
  rintro σ H4 ⟨q, us, rfl, e4, hud, hun, hul, s4⟩
  have K4 := (K2.same s3).same s4
  have P4 := (P2.same s3).same s4
  obtain ⟨w0, us', rfl⟩ : ∃ w0 us', us = w0 :: us' := by
    cases us with
    | nil => exact absurd rfl hun
    | cons w0 us' => exact ⟨w0, us', rfl⟩
  have hw0 := hud w0 List.mem_cons_self
  obtain ⟨c0, w0', rfl⟩ : ∃ c0 w0', w0 = c0 :: w0' := by
    cases w0 with
    | nil => exact absurd rfl hw0.1
    | cons c0 w0' => exact ⟨c0, w0', rfl⟩
  walk_at "w"
  refine w_mid (fun σ H' => H' = H4 ∧ ∃ sz : Nat, 2000 ≤ sz ∧ sz ≤ 2400 ∧ σ = [some (.ref a), some (.ref b1), some (.int (sz : Int)), some (.ref q), none, none, none]) ?_ ?_
  · walk_at "w"
    refine w_ixL (n := 0) (SqL.of e4) rfl ?_
    walk_at "w"
    refine w_ixS (n := 0) (c := c0) (szl (show (c0 :: w0').length ≤ 40 from hw0.2.1)) rfl ?_
    walk_at "w"
    refine w_dec (fun h1 => ?_) (fun h1 => ?_)
    · walk_at "w"
      exact ⟨rfl, 2000, by omega, by omega, rfl⟩
    · walk_at "w"
      exact ⟨rfl, sz, hs2, hs3, rfl⟩
  rintro σ H' ⟨rfl, sz, hs2, hs3, rfl⟩
  generalize c0 :: w0' = w0 at hw0 e4 hud hul hun
  generalize w0 :: us' = us at e4 hud hul hun
  walk_at "w"
  refine n_L (fun p5 H5 hp5 s5 e5 => ?_)
  walk_at "w"
  refine w_lstI (SqL.of (s5 _ _ e4)) ?_
  intro D hD
  refine lc_const (SqL.of (s5 _ _ e4)) hD (by rw [ws_len]; omega) (fun H6 s6 e6 => ?_)
  refine n_cat (s6 _ _ e5) e6 (by rw [List.length_replicate, ws_len]; show 1 + _ ≤ 100000; omega) (fun p7 H7 hp7 s7 e7 => ?_)
  walk_at "w"
  refine n_L (fun p8 H8 hp8 s8 e8 => ?_)
  refine n_cat (s8 _ _ e7) e8 (by rw [List.length_append, List.length_replicate, ws_len]; show 1 + _ + 1 ≤ 100000; omega) (fun p9 H9 hp9 s9 e9 => ?_)
  have e9' : H9 p9 = some (.lst (Is ([0] ++ List.replicate us.length 1 ++ [0]))) := by
    rw [e9, ws_len, ← Is_app, ← Is_app, ← Is_rep]; rfl
  have s59 := (((s5.tr s6).tr s7).tr s8).tr s9
  have e49 := s59 _ _ e4
  have pd : ∀ p ∈ [0] ++ List.replicate us.length 1 ++ [0], p ≤ 10 := fun p hp => by
    simp only [List.mem_append, List.mem_singleton, List.mem_replicate] at hp; omega
  have sb := sum_bound us 40 fun w hw => (hud w hw).2.1
  have tb := text_bound (r := (us, [0] ++ List.replicate us.length 1 ++ [0])) pd
  dsimp only at tb
  have pl : ([0] ++ List.replicate us.length 1 ++ [0]).length = us.length + 2 := by simp
  walk_at "w"
  refine n_L (fun p10 H10 hp10 s10 e10 => ?_)
  refine ⟨_, rfl, (us, [0] ++ List.replicate us.length 1 ++ [0]), ⟨p10, q, p9, rfl, e10, s10 _ _ e49, s10 _ _ e9'⟩, ⟨by dsimp only; rw [pl]; omega, by dsimp only; omega, by omega⟩, ?_⟩
  walk_at "w"
  refine w_lenS (szl (show _ ≤ 10000 by omega)) ?_
  walk_at "w"
  generalize hbare : (textOf (us, [0] ++ List.replicate us.length 1 ++ [0])).length = bare at tb ⊢
  rw [show (sz : Int) - (bare : Int) = ((sz - bare : Nat) : Int) by omega]
  refine w_repT (l := [97]) (n := sz - bare) (by show 1 * (sz - bare) ≤ _; omega) ?_
  walk_at "w"
  have rl := rep_len (sz - bare) [97]
  rw [show [97].length = 1 from rfl, Nat.mul_one] at rl
  refine n_L (fun p11 H11 hp11 s11 e11 => ?_)
  refine n_cat (s11 _ _ (s10 _ _ e49)) e11 (by rw [ws_len]; show _ + 1 ≤ 100000; omega) (fun p12 H12 hp12 s12 e12 => ?_)
  walk_at "w"
  refine n_L (fun p13 H13 hp13 s13 e13 => ?_)
  have sm := ((s10.tr s11).tr s12).tr s13
  have e12' : H13 p12 = some (.lst (Ws (us ++ [(List.replicate (sz - bare) [97]).flatten]))) := by
    rw [s13 _ _ e12]; show some (HO.lst (Ws us ++ [_])) = some (HO.lst (Ws (us ++ [_]))); unfold Ws; rw [List.map_append]; rfl
  refine hQ _ H13 ⟨(us ++ [(List.replicate (sz - bare) [97]).flatten], [0] ++ List.replicate us.length 1 ++ [0]), ⟨p13, p12, p9, rfl, e13, e12', sm _ _ e9'⟩, ⟨fun w hw => ?_, pad_of _ _ ?_ fun j p hj hp => ?_, ?_⟩, ?_, ?_, ?_⟩ (((P4.same s59).same sm).mono (by omega)) ((K4.same s59).same sm)
  · rcases List.mem_append.mp hw with hw | hw
    · exact wd_gw (hud w hw)
    · rw [List.mem_singleton.mp hw]
      refine ⟨fun z => ?_, fun c hc => ?_⟩
      · have := congrArg List.length z; rw [rl] at this; simp at this; omega
      · rw [List.mem_singleton.mp (rep_mem hc)]; decide
  · simp
  · have hp : (List.replicate us.length 1 ++ [0])[j]? = some p := hp
    rw [List.length_append] at hj
    have hj : j < us.length := by simpa using hj
    rw [List.getElem?_append_left (by rw [List.length_replicate]; exact hj), List.getElem?_replicate, if_pos hj] at hp
    cases hp; exact Nat.le_refl _
  · simp
  · simp
  · simp; omega
  · have tb2 := text_bound (r := (us ++ [(List.replicate (sz - bare) [97]).flatten], [0] ++ List.replicate us.length 1 ++ [0])) pd
    dsimp only at tb2
    rw [List.map_append, List.sum_append, List.length_append] at tb2
    have : (List.map List.length [(List.replicate (sz - bare) [97]).flatten]).sum = sz - bare := by
      show _ + 0 = _
      rw [rl]; rfl
    rw [this] at tb2
    have : [(List.replicate (sz - bare) [97]).flatten].length = 1 := rfl
    rw [this] at tb2
    omega

def sp_law_purse (K : PySem.W.Frag) : Sp := sp1 fun x H Q _ => ∃ (a : Addr) (ns : List Int), x = .ref a ∧ SqL K H a (ns.map V.int) ∧ ns.length ≤ 63 ∧ ∀ p c H', Pu p c 0 H' → Q (.ref p) H'
theorem pow60 : CPowN 10 60 := ⟨by decide, by decide +kernel⟩
theorem ten60 : ((10 : Int) ^ (60 : Int).toNat) = 10 ^ 60 := by decide +kernel
theorem pow608 : CPowN (10 ^ 60) 8 := ⟨by decide, by decide +kernel⟩
theorem ten480 : (0 : Int) < ((10 : Int) ^ 60) ^ (8 : Int).toNat := by decide +kernel
theorem ok_law_purse (T : Txt w K mg) {fd : FuncData} (F : Fn_law_purse K fd) (hm : mg "_law_purse" = some (.ref (He.ga K "_law_purse")))  : CalX P w K mg base CX0 1 "_law_purse" (sp_law_purse K) := by
  refine calx0 (k := 0) F hm sc_law_purse (b_law_purse F) (fun _ _ _ _ h => sp1_len h) (fun cdv A outer s H vs Q E hr h => ?_)
  obtain ⟨x0, rfl, h⟩ := h
  refine ⟨_, (pss_cons (ps_setLc (i := 2) (own := [("cell", 1)]) (g := gName 1) (tt := tYes) (by rfl) sc_law_purse.nd rfl rfl (sw_true rfl rfl rfl (by decide +kernel)) (pi_list (pe_slice sl_list (pv 0) po_none (po_some pe_int))) (blkOk_by (own := [("cell", 1)]) (N := ["script", "cell", "cells", "seed"]) (sc := defScope s_law_purse) (by decide +kernel)) (fun _ _ _ _ _ => pg_name (i := 1) sc_law_purse.nd rfl (Or.inl rfl)) (fun _ _ _ _ _ => pts_nil) (fun _ _ _ _ _ => (pe_op op_modI (pe_callB call_absI (by rfl) T.f_abs (by decide +kernel) (pa_cons (pe_callTy call_intI (by rfl) T.f_int (by decide +kernel) (pa_cons (pv 1) pa_nil)) pa_nil)) (pe_op op_powN (pe_op op_powN pe_int pe_int) pe_int))))
    (pss_cons (ps_set (i := 3) sc_law_purse.nd rfl (Or.inl rfl) pe_int)
    (pss_cons (ps_for PassesOwn.never rfl (pi_list (pv 2)) (pg_name (i := 1) sc_law_purse.nd rfl (Or.inl rfl))
    (pss_one (ps_set (i := 3) sc_law_purse.nd rfl (Or.inl rfl) (pe_op op_modI (pe_callTy call_intI (by rfl) T.f_int (by decide +kernel) (pa_cons (pe_op op_addI (pe_op op_addI (pe_op op_mulI (pv 3) pe_int) (pv 1)) pe_int) pa_nil)) pe_int))))
    (pss_one (ps_ret (pe_lst (pa_cons (pv 2) (pa_cons pe_int (pa_cons pe_int (pa_cons (pv 3) (pa_cons pe_int pa_nil))))))))))), ?_⟩
  rw [show start ["script", "cell", "cells", "seed"] [x0] = [some x0, none, none, none] from rfl]
  obtain ⟨a, ns, rfl, hS, hn, hQ⟩ := h
  try dsimp only [cxOf]
  walk_at "w"
  refine n_to (b := 63) hS (fun p1 H1 hp1 s1 e1 => ?_)
  walk_at "w"
  refine w_lstI (SqL.of e1) ?_
  intro D hD
  have eT : (ns.map V.int).take 63 = ns.map V.int := List.take_of_length_le (by rw [List.length_map]; exact hn)
  rw [eT] at e1
  refine lc_list (K := K) (a := p1) (xs := ns.map V.int) (fun i H' => Same H1 H' ∧ ∃ ms : List Int, H' D = some (.lst (ms.map V.int)) ∧ ms.length = i ∧ ∀ k ∈ ms, 0 ≤ k) ⟨same_upd hD, [], upd_same, rfl, fun k hk => by cases hk⟩ (fun i H' _ h => SqL.of (h.1 _ _ e1)) ?_ ?_
  · rintro i x H' hx ⟨sm, ms, hd, hl, hp⟩
    rw [List.getElem?_map] at hx
    obtain ⟨k, hk, rfl⟩ : ∃ k, ns[i]? = some k ∧ x = .int k := by
      cases q : ns[i]? with
      | none => rw [q] at hx; cases hx
      | some k => rw [q] at hx; cases hx; exact ⟨k, rfl, rfl⟩
    have hi := (List.getElem?_eq_some_iff.mp hk).1
    dsimp only [gName]
    refine ⟨rfl, ?_⟩
    walk_at "w"
    refine w_powN pow60 ?_
    rw [ten60]
    walk_at "w"
    refine w_powN pow608 ?_
    have hB := ten480
    generalize (((10 : Int) ^ 60) ^ (8 : Int).toNat) = B at hB ⊢
    refine w_modI hB ?_
    refine ⟨_, hd, Nat.lt_of_le_of_lt (show _ ≤ 63 by rw [List.length_map]; omega) (by decide), ⟨fun b o e => by rw [upd_ne (ne_of_none e hD)]; exact sm b o e, ms ++ [_], by rw [upd_same, List.map_append]; rfl, by rw [List.length_append, hl]; rfl, fun k hk => ?_⟩⟩
    rcases List.mem_append.mp hk with hk | hk
    · exact hp k hk
    · rw [List.mem_singleton.mp hk]; exact Int.emod_nonneg _ (by omega)
  · rintro H2 ⟨sm, ms, hd, hl, hp⟩
    walk_at "w"
    refine w_lstI (SqL.of hd) ?_
    refine for_list (xs := ms.map V.int) (fun i σ H' => H' = H2 ∧ ∃ (sd : Nat) (v : Option V) (u : Option V), σ = [some (.ref a), u, some (.ref D), some (.int (sd : Int))] ∧ sd < 2147483647) ⟨rfl, 7, none, _, rfl, by omega⟩ (fun i σ H' _ h => by rw [h.1]; exact SqL.of hd) ?_ ?_
    · rintro i x σ H' hx ⟨rfl, sd, v, u, rfl, hsd⟩
      rw [List.getElem?_map] at hx
      obtain ⟨k, hk, rfl⟩ : ∃ k, ms[i]? = some k ∧ x = .int k := by
        cases q : ms[i]? with
        | none => rw [q] at hx; cases hx
        | some k => rw [q] at hx; cases hx; exact ⟨k, rfl, rfl⟩
      dsimp only [gName]
      walk_at "w"
      refine w_mulI (.inr (by omega)) ?_
      walk_at "w"
      refine w_modI (by omega) ?_
      walk_at "w"
      have z1 := Int.emod_nonneg ((sd : Int) * 48271 + k + 11) (show (2147483647 : Int) ≠ 0 by omega)
      have z2 := Int.emod_lt_of_pos ((sd : Int) * 48271 + k + 11) (show (0 : Int) < 2147483647 by omega)
      generalize ((sd : Int) * 48271 + k + 11) % 2147483647 = z at z1 z2 ⊢
      obtain ⟨z', rfl⟩ : ∃ z' : Nat, z = (z' : Int) := ⟨z.toNat, by omega⟩
      exact ⟨rfl, z', none, _, rfl, by omega⟩
    · rintro σ H' ⟨rfl, sd, v, u, rfl, hsd⟩
      walk_at "w"
      refine n_L (fun p3 H3 hp3 s3 e3 => ?_)
      exact hQ p3 D H3 ⟨ms, 0, 0, sd, 0, e3, s3 _ _ hd, hp, hsd, Nat.le_refl _⟩

end
end K36

/-! The plain law: reading a page -/
namespace K36
open PySem L2 TL
def wBOOK : List Nat := [98,111,111,107]
def wLEANS : List Nat := [108,101,97,110,115]
def wBASE : List Nat := [98,97,115,101]
def wQED : List Nat := [113,101,100]
def wTHM : List Nat := [116,104,101,111,114,101,109]
def KEYS : List (List Nat × List Nat) := [([100,97,116,97], [61]), ([99,111,110,115,116], [58]), ([100,101,102,105,110,101], [58,61]), ([98,101,103,105,110], [58]), ([116,104,101,111,114,101,109], [58])]
def sgn (w : List Nat) : Option (List Nat) := (KEYS.find? fun p => decide (p.1 = w)).map (·.2)
/-- the stripped line, the rest behind three words -/
def b0 (r : Row) : List Nat := bd r.1 (r.2.drop 1)
def b3 (r : Row) : List Nat := bd (r.1.drop 3) (r.2.drop 4)
def w0 (r : Row) : List Nat := r.1.headD []
def blank (r : Row) : Bool := decide (r.1 = []) || decide ((w0 r)[0]? = some 35)
structure Item where
  w : List Nat
  n : Nat
  nm : List Nat
  b : List Nat
  sc : Option (List (Nat × List Nat) × Nat)
/-- what an item's line says -/
def itm (r : Row) (n : Nat) : Option Item :=
  if w0 r = wBASE then
    (if r.1.length = 2 ∧ isName (r.1.getD 1 []) = true then some ⟨wBASE, n, r.1.getD 1 [], [], none⟩ else none)
  else if sgn (w0 r) = none ∨ r.1.length < 4 then none
  else if ¬ isName (r.1.getD 1 []) = true ∨ sgn (w0 r) ≠ some (r.1.getD 2 []) then none
  else some ⟨w0 r, n, r.1.getD 1 [], b3 r, none⟩
def lfit (ws : List (List Nat)) (own : List Nat) : Bool := decide (2 ≤ ws.length) && decide (∀ w ∈ ws.drop 1, isName w = true ∧ w ≠ own) && decide ((ws.drop 1).Nodup)
inductive St0
  | title
  | after (own : List Nat)
  | items (own : List Nat) (leans : List (List Nat)) (acc : List Item)
  | script (own : List Nat) (leans : List (List Nat)) (acc : List Item) (it : Item) (scr : List (Nat × List Nat))
inductive Res
  | fault (n : Nat)
  | ok (own : List Nat) (leans : List (List Nat)) (items : List Item)
def St0.item (own : List Nat) (leans : List (List Nat)) (acc : List Item) (r : Row) (n : Nat) : St0 ⊕ Nat := match itm r n with
  | none => .inr n
  | some it => .inl (if it.w = wTHM then .script own leans acc it [] else .items own leans (acc ++ [it]))
def step (st : St0) (r : Row) (n : Nat) : St0 ⊕ Nat := match st with
  | .title => if r.1.length = 2 ∧ w0 r = wBOOK ∧ isName (r.1.getD 1 []) = true then .inl (.after (r.1.getD 1 [])) else .inr n
  | .after own => if w0 r = wLEANS then (if lfit r.1 own = true then .inl (.items own (r.1.drop 1) []) else .inr n) else St0.item own [] [] r n
  | .items own leans acc => St0.item own leans acc r n
  | .script own leans acc it scr => if r.1 = [wQED] then .inl (.items own leans (acc ++ [{ it with sc := some (scr, n) }])) else .inl (.script own leans acc it (scr ++ [(n, b0 r)]))
def fin (st : St0) (n : Nat) : Res := match st with
  | .title => .fault (n + 1)
  | .script .. => .fault (n + 1)
  | .after own => .ok own [] []
  | .items own leans acc => .ok own leans acc
def wide (r : Row) (k : Nat) : Bool := decide (400 ≤ k) || decide (2000 < (textOf r).length)
def rdp : List Row → Nat → St0 → Res
  | [], k, st => fin st k
  | r :: rs, k, st => if wide r k = true then .fault (k + 1) else if blank r = true then rdp rs (k + 1) st else match step st r (k + 1) with
    | .inr n => .fault n
    | .inl st' => rdp rs (k + 1) st'
inductive Sk
  | bad (n : Nat)
  | eof
  | at_ (n : Nat) (r : Row) (rest : List Row)
def skip : List Row → Nat → Sk
  | [], _ => .eof
  | r :: rs, k => if wide r k = true then .bad (k + 1) else if blank r = true then skip rs (k + 1) else .at_ (k + 1) r rs
/-- what follows a found line -/
def go (sk : Sk) (st : St0) (N : Nat) : Res := match sk with
  | .bad n => .fault n
  | .eof => fin st N
  | .at_ n r rest => match step st r n with
    | .inr m => .fault m
    | .inl st' => rdp rest n st'
theorem rdp_skip : ∀ (rows : List Row) (k : Nat) (st : St0), rdp rows k st = go (skip rows k) st (k + rows.length)
  | [], _, _ => rfl
  | r :: rs, k, st => by
    unfold rdp skip
    by_cases h1 : wide r k = true
    · rw [if_pos h1, if_pos h1]; rfl
    · rw [if_neg h1, if_neg h1]
      by_cases h2 : blank r = true
      · rw [if_pos h2, if_pos h2, rdp_skip rs (k + 1) st]
        congr 1
        rw [List.length_cons]; omega
      · rw [if_neg h2, if_neg h2]; rfl
theorem skip_at : ∀ (rows : List Row) (k : Nat) {n : Nat} {r : Row} {rest : List Row}, skip rows k = .at_ n r rest → k < n ∧ n ≤ k + rows.length ∧ rest = rows.drop (n - k) ∧ rows[n - k - 1]? = some r ∧ blank r = false
  | [], _, _, _, _, h => by cases h
  | r :: rs, k, n, r', rest, h => by
    unfold skip at h
    by_cases h1 : wide r k = true
    · rw [if_pos h1] at h; cases h
    · rw [if_neg h1] at h
      by_cases h2 : blank r = true
      · rw [if_pos h2] at h
        obtain ⟨a, b, c, d, e⟩ := skip_at rs (k + 1) h
        refine ⟨by omega, by rw [List.length_cons]; omega, ?_, ?_, e⟩
        · rw [c, show n - k = (n - (k + 1)) + 1 by omega]; rfl
        · rw [show n - k - 1 = (n - (k + 1) - 1) + 1 by omega]; exact d
      · rw [if_neg h2] at h
        cases h
        refine ⟨by omega, by rw [List.length_cons]; omega, by rw [show k + 1 - k = 1 by omega]; rfl, by rw [show k + 1 - k - 1 = 0 by omega]; rfl, by simpa using h2⟩
/-- a theorem's script -/
inductive SR
  | bad (n : Nat)
  | done (scr : List (Nat × List Nat)) (n : Nat) (rest : List Row)
def scrR : List Row → Nat → List (Nat × List Nat) → SR
  | [], k, _ => .bad (k + 1)
  | r :: rs, k, scr => if wide r k = true then .bad (k + 1) else if blank r = true then scrR rs (k + 1) scr else if r.1 = [wQED] then .done scr (k + 1) rs else scrR rs (k + 1) (scr ++ [(k + 1, b0 r)])
theorem rdp_cons (r : Row) (rs : List Row) (k : Nat) (st : St0) : rdp (r :: rs) k st = if wide r k = true then .fault (k + 1) else if blank r = true then rdp rs (k + 1) st else match step st r (k + 1) with
    | .inr n => .fault n
    | .inl st' => rdp rs (k + 1) st' := rfl
theorem scrR_cons (r : Row) (rs : List Row) (k : Nat) (scr : List (Nat × List Nat)) : scrR (r :: rs) k scr = if wide r k = true then .bad (k + 1) else if blank r = true then scrR rs (k + 1) scr else if r.1 = [wQED] then .done scr (k + 1) rs else scrR rs (k + 1) (scr ++ [(k + 1, b0 r)]) := rfl
theorem step_script (own : List Nat) (leans : List (List Nat)) (acc : List Item) (it : Item) (scr : List (Nat × List Nat)) (r : Row) (n : Nat) : step (.script own leans acc it scr) r n = if r.1 = [wQED] then .inl (.items own leans (acc ++ [{ it with sc := some (scr, n) }])) else .inl (.script own leans acc it (scr ++ [(n, b0 r)])) := rfl
theorem rdp_script (own : List Nat) (leans : List (List Nat)) (acc : List Item) (it : Item) : ∀ (rows : List Row) (k : Nat) (scr : List (Nat × List Nat)),
    rdp rows k (.script own leans acc it scr) = match scrR rows k scr with
      | .bad n => .fault n
      | .done s n rest => rdp rest n (.items own leans (acc ++ [{ it with sc := some (s, n) }]))
  | [], _, _ => rfl
  | r :: rs, k, scr => by
    rw [rdp_cons, scrR_cons]
    by_cases h1 : wide r k = true
    · rw [if_pos h1, if_pos h1]
    · rw [if_neg h1, if_neg h1]
      by_cases h2 : blank r = true
      · rw [if_pos h2, if_pos h2]; exact rdp_script own leans acc it rs (k + 1) scr
      · rw [if_neg h2, if_neg h2, step_script]
        by_cases h3 : r.1 = [wQED]
        · rw [if_pos h3, if_pos h3]
        · rw [if_neg h3, if_neg h3]; exact rdp_script own leans acc it rs (k + 1) _
def skS (sk : Sk) (scr : List (Nat × List Nat)) (N : Nat) : SR := match sk with
  | .bad n => .bad n
  | .eof => .bad (N + 1)
  | .at_ n r rest => if r.1 = [wQED] then .done scr n rest else scrR rest n (scr ++ [(n, b0 r)])
theorem scr_skip : ∀ (rows : List Row) (k : Nat) (scr : List (Nat × List Nat)), scrR rows k scr = skS (skip rows k) scr (k + rows.length)
  | [], _, _ => rfl
  | r :: rs, k, scr => by
    unfold scrR skip
    by_cases h1 : wide r k = true
    · rw [if_pos h1, if_pos h1]; rfl
    · rw [if_neg h1, if_neg h1]
      by_cases h2 : blank r = true
      · rw [if_pos h2, if_pos h2, scr_skip rs (k + 1) scr]
        congr 1
        rw [List.length_cons]; omega
      · rw [if_neg h2, if_neg h2]; rfl
theorem scr_done : ∀ (rows : List Row) (k : Nat) (scr : List (Nat × List Nat)) {s : List (Nat × List Nat)} {n : Nat} {rest : List Row}, scrR rows k scr = .done s n rest → k < n ∧ n ≤ k + rows.length ∧ rest = rows.drop (n - k)
  | [], _, _, _, _, _, h => by cases h
  | r :: rs, k, scr, s, n, rest, h => by
    unfold scrR at h
    by_cases h1 : wide r k = true
    · rw [if_pos h1] at h; cases h
    · rw [if_neg h1] at h
      have up : ∀ scr', scrR rs (k + 1) scr' = .done s n rest → k < n ∧ n ≤ k + (r :: rs).length ∧ rest = (r :: rs).drop (n - k) := fun scr' h => by
        obtain ⟨a, b, c⟩ := scr_done rs (k + 1) scr' h
        refine ⟨by omega, by rw [List.length_cons]; omega, ?_⟩
        rw [c, show n - k = (n - (k + 1)) + 1 by omega]; rfl
      by_cases h2 : blank r = true
      · rw [if_pos h2] at h; exact up _ h
      · rw [if_neg h2] at h
        by_cases h3 : r.1 = [wQED]
        · rw [if_pos h3] at h; cases h
          exact ⟨by omega, by rw [List.length_cons]; omega, by rw [show k + 1 - k = 1 by omega]; rfl⟩
        · rw [if_neg h3] at h; exact up _ h
end K36

namespace K36
open PySem PySem.Spec PyProof.Rows L2 SX
local macro_rules | `(tactic| walk_at "w1") => `(tactic| (first
  | with_reducible refine w_seq ?_ | with_reducible refine w_asgN ?_ | with_reducible refine w_c ?_
  | ((with_reducible refine' w_var ?wv ?_); (case wv => exact rfl))
  | with_reducible refine w_op ?_ | with_reducible refine w_un ?_ | with_reducible refine w_next ?_ | with_reducible refine w_brk ?_ | with_reducible refine w_cnt ?_
  | with_reducible refine w_ifS ?_ | with_reducible refine w_if ?_ | with_reducible refine w_test ?_ | with_reducible refine w_tB ?_ | with_reducible refine w_bl ?_ | with_reducible refine w_blI ?_
  | with_reducible refine w_and ?_ | with_reducible refine w_or ?_ | with_reducible refine w_not ?_ | with_reducible refine w_andV ?_ | with_reducible refine w_orV ?_ | with_reducible refine w_notV ?_
  | with_reducible refine w_nil ?_ | with_reducible refine w_cons ?_ | with_reducible refine w_cb ?_ | with_reducible refine w_call ?_ | with_reducible refine w_callS ?_ | with_reducible refine w_chain ?_
  | with_reducible refine w_tupN ?_ | with_reducible refine w_lstN ?_ | with_reducible refine w_sl ?_ | with_reducible refine w_noPart ?_ | with_reducible refine w_part ?_ | with_reducible refine w_partI ?_
  | with_reducible refine w_ret ?_ | with_reducible refine w_retN ?_ | with_reducible refine w_drop ?_ | with_reducible refine w_asg ?_ | with_reducible refine w_gSub ?_
  | ((with_reducible refine' w_aug ?wv ?_); (case wv => exact rfl)) | with_reducible refine w_ipI ?_
  | with_reducible refine w_addI ?_ | with_reducible refine w_subI ?_ | with_reducible refine w_ltI ?_ | with_reducible refine w_leI ?_ | with_reducible refine w_gtI ?_ | with_reducible refine w_geI ?_
  | with_reducible refine w_eqI ?_ | with_reducible refine w_neI ?_ | with_reducible refine w_eqT ?_ | with_reducible refine w_neT ?_ | with_reducible refine w_inS ?_ | with_reducible refine w_ninS ?_
  | with_reducible refine w_absI ?_ | with_reducible refine w_intI ?_ | with_reducible refine w_maxI ?_ | with_reducible refine w_minI ?_
  | with_reducible refine w_for ?_ | with_reducible refine w_iR1 ?_ | with_reducible refine w_iR2 ?_ | with_reducible refine w_iStr ?_ | with_reducible refine w_strI ?_ | with_reducible refine w_iList ?_ | with_reducible refine w_iTup ?_
  | with_reducible refine w_bm ?_ | with_reducible refine w_bm0 ?_ | with_reducible refine w_t ?_ | with_reducible refine w_f ?_ | with_reducible refine w_nt ?_ | with_reducible refine w_nx ?_ | with_reducible refine w_rt ?_ | with_reducible refine w_bk ?_ | with_reducible refine w_ct ?_ | with_reducible refine w_nf ?_ | with_reducible refine w_lc ?_ | with_reducible refine w_yes ?_ | with_reducible refine w_neg ?_ | with_reducible refine w_intB ?_ | with_reducible refine w_fld ?_ | with_reducible refine w_setf ?_ | with_reducible refine w_faug ?_ | with_reducible refine w_meth ?_ | with_reducible refine w_bmS ?_ | with_reducible refine w_start ?_))
local macro_rules | `(tactic| walk_at "w") => `(tactic| (repeat (first | walk_at "w1" | dsimp (config := { proj := false }) only [List.set_cons_zero, List.set_cons_succ])))
section
variable {w : World} {K : PySem.W.Frag} {mg : Str → Option Value} {base : Heap}

/-! ### the judge's parts -/
def KVL (L : List (List Nat × List Nat)) : List (Key × V) := L.map fun p => (Sum.inr (S p.1), V.str (S p.2))
theorem val_KVL (w : List Nat) : ∀ L : List (List Nat × List Nat), valV (KVL L) (Sum.inr (S w)) = ((L.find? fun p => decide (p.1 = w)).map (·.2)).map fun z => V.str (S z)
  | [] => rfl
  | (a, b) :: L => by
    have ih := val_KVL w L
    unfold valV KVL at ih ⊢
    rw [List.map_cons, List.find?_cons, List.find?_cons]
    by_cases h : a = w
    · subst h
      rw [decide_eq_true rfl, decide_eq_true rfl]; rfl
    · rw [decide_eq_false h, decide_eq_false (fun z => h (SX.S_inj (Sum.inr.inj z)))]
      exact ih
theorem merge_KVL : mergeK [] (KVL KEYS) = KVL KEYS := by rfl
theorem get_sgn (w : List Nat) : valV (mergeK [] (KVL KEYS)) (Sum.inr (S w)) = (sgn w).map fun z => V.str (S z) := by rw [merge_KVL, val_KVL]; rfl
theorem w_dnotin {ty td : TE} {σ : L2.St} {H : Hp} {Q : VK} (h : ty σ H fun y H1 => td σ H1 fun x H2 => ∃ a o, x = .ref a ∧ DGet H2 a y o ∧ Q (.bl (!o.isSome)) H2) : tDNotIn ty td σ H Q := h
theorem w_dget {ty td : TE} {σ : L2.St} {H : Hp} {Q : VK} (h : td σ H fun x H1 => ty σ H1 fun y H2 => ∃ a v, x = .ref a ∧ DGet H2 a y (some v) ∧ Q v H2) : tDGet td ty σ H Q := h
def sp_law_item : Sp := sp3 fun x y z H Q _ => ∃ (q : Addr) (r : Row) (n : Nat), x = .ref q ∧ H q = some (.lst (Ws r.1)) ∧ RowV H y r ∧ Good r ∧ Fit r ∧ r.1 ≠ [] ∧ z = .int (n : Int) ∧ ∀ H', Same H H' →
  (itm r n = none → Q .non H') ∧ ∀ it p, itm r n = some it → it.n = n → it.sc = none → H' p = some (.tup [.str (S it.w), .int (n : Int), .str (S it.nm), .str (S it.b)]) → Q (.ref p) H'
theorem w_isNon {x : V} {H : Hp} {Q : VK} (h : Q (.bl (decide (x = .non))) H) : V.non = V.non ∧ Q (.bl (decide (x = .non))) H := ⟨rfl, h⟩
theorem gw_len {r : Row} (hF : Fit r) {w : List Nat} (h : w ∈ r.1) : w.length ≤ 10000 := by
  have h3 := hF.2.2
  unfold textOf at h3
  rw [List.length_append] at h3
  have : ∀ (ws : List (List Nat)) (ps : List Nat), w ∈ ws → w.length ≤ (tx ws ps).length := by
    intro ws
    induction ws with
    | nil => intro ps h; cases h
    | cons v r ih =>
      intro ps h
      cases ps with
      | nil =>
        show w.length ≤ (v ++ tx r []).length
        rw [List.length_append]
        rcases List.mem_cons.mp h with rfl | h
        · omega
        · have := ih [] h; omega
      | cons p ps =>
        show w.length ≤ (v ++ (rep p ++ tx r ps)).length
        rw [List.length_append, List.length_append]
        rcases List.mem_cons.mp h with rfl | h
        · omega
        · have := ih ps h; omega
  have := this r.1 (r.2.drop 1) h
  omega
theorem ok_law_item (T : Txt w K mg) {fd : FuncData} (F : Fn_law_item K fd) (hm : mg "_law_item" = some (.ref (He.ga K "_law_item"))) (c_law_is_name : CalX P w K mg base CX0 1 "_law_is_name" sp_law_is_name) (c_law_rest_of : CalX P w K mg base CX0 1 "_law_rest_of" sp_law_rest_of) : CalX P w K mg base CX0 2 "_law_item" sp_law_item := by
  refine calx0 (k := 1) F hm sc_law_item (b_law_item F) (fun _ _ _ _ h => sp3_len h) (fun cdv A outer s H vs Q E hr h => ?_)
  obtain ⟨x0, x1, x2, rfl, h⟩ := h
  refine ⟨_, (pss_cons (ps_if (pt_cmpR op_eq (pe_ix ix_list (pv 0) pe_int (fun _ _ => rfl)) pe_str (nomark _))
    (pss_cons (ps_if (PW.pt (pw_and (pt_cmpR op_eq (pe_callB call_lenQ (by rfl) T.f_len PySem.boot_len (pa_cons (pv 0) pa_nil)) pe_int (nomark _)) (pw_and1 (pt_val (pe_cx c_law_is_name hr (by decide) rfl pass0 (pa_cons (pe_ix ix_list (pv 0) pe_int (fun _ _ => rfl)) pa_nil))))))
    (pss_one (ps_ret (pe_tup (pa_cons pe_str (pa_cons (pv 2) (pa_cons (pe_ix ix_list (pv 0) pe_int (fun _ _ => rfl)) (pa_cons pe_str pa_nil)))))))
    pss_nil)
    (pss_one (ps_ret pe_non)))
    pss_nil)
    (pss_cons (ps_set (i := 3) sc_law_item.nd rfl (Or.inl rfl) (pe_disp (pps_cons pe_str pe_str (pps_cons pe_str pe_str (pps_cons pe_str pe_str (pps_cons pe_str pe_str (pps_cons pe_str pe_str pps_nil))))) (by rfl) (by rfl) (fun z => by cases z) (by decide)))
    (pss_cons (ps_if (PW.pt (pw_or (pt_cmp (pc_dnotin (hu_of hr) (pe_ix ix_list (pv 0) pe_int (fun _ _ => rfl)) (pv 3))) (pw_or1 (pt_cmpR op_ltI (pe_callB call_lenQ (by rfl) T.f_len PySem.boot_len (pa_cons (pv 0) pa_nil)) pe_int (nomark _)))))
    (pss_one (ps_ret pe_non))
    pss_nil)
    (pss_cons (ps_if (PW.pt (pw_or (pt_not (pt_val (pe_cx c_law_is_name hr (by decide) rfl pass0 (pa_cons (pe_ix ix_list (pv 0) pe_int (fun _ _ => rfl)) pa_nil)))) (pw_or1 (pt_cmpR op_ne (pe_ix ix_list (pv 0) pe_int (fun _ _ => rfl)) (pe_dget (hu_of hr) (pv 3) (pe_ix ix_list (pv 0) pe_int (fun _ _ => rfl)) (fun _ _ => rfl)) (nomark _)))))
    (pss_one (ps_ret pe_non))
    pss_nil)
    (pss_one (ps_ret (pe_tup (pa_cons (pe_ix ix_list (pv 0) pe_int (fun _ _ => rfl)) (pa_cons (pv 2) (pa_cons (pe_ix ix_list (pv 0) pe_int (fun _ _ => rfl)) (pa_cons (pe_cx c_law_rest_of hr (by decide) rfl pass0 (pa_cons (pv 1) (pa_cons pe_int pa_nil))) pa_nil))))))))))), ?_⟩
  rw [show start ["words", "row", "number", "signs"] [x0, x1, x2] = [some x0, some x1, some x2, none] from rfl]
  have ec0 : Str.ofString "base" = S [98,97,115,101] := S_ofs (by decide +kernel)
  have ec1 : Str.ofString "data" = S [100,97,116,97] := S_ofs (by decide +kernel)
  have ec2 : Str.ofString "const" = S [99,111,110,115,116] := S_ofs (by decide +kernel)
  have ec3 : Str.ofString "define" = S [100,101,102,105,110,101] := S_ofs (by decide +kernel)
  have ec4 : Str.ofString "begin" = S [98,101,103,105,110] := S_ofs (by decide +kernel)
  have ec5 : Str.ofString "theorem" = S [116,104,101,111,114,101,109] := S_ofs (by decide +kernel)
  have ec6 : Str.ofString "=" = S [61] := S_ofs (by decide +kernel)
  have ec7 : Str.ofString ":" = S [58] := S_ofs (by decide +kernel)
  have ec8 : Str.ofString ":=" = S [58,61] := S_ofs (by decide +kernel)
  have ec9 : Str.ofString "" = S [] := S_ofs (by decide +kernel)
  rw [ec0, ec1, ec2, ec3, ec4, ec5, ec6, ec7, ec8, ec9]
  obtain ⟨q, r, n, rfl, hq, hrow, hG, hF, hne, rfl, hQ⟩ := h
  have hq' := hq
  obtain ⟨ws, ps⟩ := r
  obtain ⟨u0, us, rfl⟩ : ∃ u0 us, ws = u0 :: us := by
    cases ws with
    | nil => exact absurd rfl hne
    | cons a b => exact ⟨a, b, rfl⟩
  dsimp only at hq
  have ew0 : w0 (u0 :: us, ps) = u0 := rfl
  have l0 := gw_len hF (w := u0) List.mem_cons_self
  try dsimp only [cxOf]
  walk_at "w"
  refine w_ixL (n := 0) (SqL.of hq) rfl ?_
  walk_at "w"
  refine w_dec (fun h1 => ?_) (fun h1 => ?_)
  · have h1 : u0 = wBASE := h1
    walk_at "w"
    refine w_lenL (SqL.of hq) ?_
    walk_at "w"
    rw [ws_len]
    refine w_dec (fun h2 => ?_) (fun h2 => ?_)
    · walk_at "w"
      have h2' : us.length = 1 := by have : (u0 :: us).length = 2 := by omega
                                     simpa using this
      obtain ⟨u1, rfl⟩ : ∃ u1, us = [u1] := by
        match us, h2' with
        | [u1], _ => exact ⟨u1, rfl⟩
      have l1 := gw_len hF (w := u1) (by simp)
      refine w_ixL (n := 1) (SqL.of hq) rfl ?_
      walk_at "w"
      refine ⟨_, rfl, u1, rfl, by omega, fun H1 s1 => ?_⟩
      walk_at "w"
      refine w_b (fun h3 => ?_) (fun h3 => ?_)
      · walk_at "w"
        refine w_ixL (n := 1) (SqL.of (s1 _ _ hq)) rfl ?_
        walk_at "w"
        refine n_T (fun p H2 hp s2 e2 => ?_)
        have e : itm ([u0, u1], ps) n = some ⟨wBASE, n, u1, [], none⟩ := by
          unfold itm; rw [ew0, if_pos h1, if_pos ⟨rfl, h3⟩]; rfl
        exact (hQ H2 (s1.tr s2)).2 _ p e rfl rfl e2
      · walk_at "w"
        refine (hQ H1 s1).1 ?_
        unfold itm
        rw [ew0, if_pos h1, if_neg (fun z => by have := z.2; rw [show (([u0, u1], ps) : Row).1.getD 1 [] = u1 from rfl, h3] at this; cases this)]
    · walk_at "w"
      refine (hQ H (Same.refl _)).1 ?_
      unfold itm
      rw [ew0, if_pos h1, if_neg (fun z => h2 (by have : (u0 :: us).length = 2 := z.1; omega))]
  · have h1 : ¬ u0 = wBASE := h1
    walk_at "w"
    refine w_disp (fun pd hpd => ?_)
    show tPairs [(_, _), (_, _), (_, _), (_, _), (_, _)] _ _ _
    refine ⟨upd_same, KVL KEYS, rfl, Nat.le_of_ble_eq_true rfl, ?_⟩
    rw [upd_upd]
    have s5 : Same H (upd H pd (.dK (mergeK [] (KVL KEYS)))) := same_upd hpd
    have d5 : upd H pd (.dK (mergeK [] (KVL KEYS))) pd = some (.dK (mergeK [] (KVL KEYS))) := upd_same
    generalize upd H pd (.dK (mergeK [] (KVL KEYS))) = H5 at s5 d5 ⊢
    have hq5 := s5 _ _ hq
    walk_at "w"
    refine w_dnotin ?_
    walk_at "w"
    refine w_ixL (n := 0) (SqL.of hq5) rfl ?_
    walk_at "w"
    have g5 := DGet.k (k := Sum.inr (S u0)) d5
    rw [get_sgn] at g5
    have in1 : ∀ {H6 : Hp}, Same H H6 → (sgn u0 = none ∨ (u0 :: us).length < 4) → Q .non H6 := fun sm z => (hQ _ sm).1 (by unfold itm; rw [ew0, if_neg h1, if_pos z])
    refine ⟨pd, _, rfl, g5, ?_⟩
    cases hsg : sgn u0 with
    | none =>
      walk_at "w"
      exact in1 s5 (.inl hsg)
    | some sg =>
    rw [hsg] at g5
    walk_at "w"
    show if (!true) = true then _ else _
    walk_at "w"
    refine w_lenL (SqL.of hq5) ?_
    walk_at "w"
    rw [ws_len]
    refine w_dec (fun h2 => ?_) (fun h2 => ?_)
    · walk_at "w"
      exact in1 s5 (.inr (by omega))
    have h2' : 4 ≤ (u0 :: us).length := by omega
    obtain ⟨u1, u2, u3, us, rfl⟩ : ∃ u1 u2 u3 us', us = u1 :: u2 :: u3 :: us' := by
      match us, h2' with
      | u1 :: u2 :: u3 :: us', _ => exact ⟨u1, u2, u3, us', rfl⟩
    have l1 := gw_len hF (w := u1) (by simp)
    have in2 : ∀ {H6 : Hp}, Same H H6 → (¬ isName u1 = true ∨ sg ≠ u2) → Q .non H6 := fun sm z => (hQ _ sm).1 (by
      unfold itm
      rw [ew0, if_neg h1, if_neg (fun y => by rcases y with y | y; rw [hsg] at y; cases y; exact absurd h2' (by have : (u0 :: u1 :: u2 :: u3 :: us).length < 4 := y; omega)), if_pos]
      rcases z with z | z
      · exact .inl z
      · exact .inr (by rw [hsg]; exact fun y => z (by injection y)))
    walk_at "w"
    refine w_ixL (n := 1) (SqL.of hq5) rfl ?_
    walk_at "w"
    refine ⟨_, rfl, u1, rfl, by omega, fun H6 s6 => ?_⟩
    have hq6 := s6 _ _ hq5
    walk_at "w"
    refine w_b (fun h3 => ?_) (fun h3 => ?_)
    · walk_at "w"
      exact in2 (s5.tr s6) (.inl fun z => by rw [z] at h3; cases h3)
    walk_at "w"
    refine w_ixL (n := 2) (SqL.of hq6) rfl ?_
    walk_at "w"
    refine w_dget ?_
    walk_at "w"
    refine w_ixL (n := 0) (SqL.of hq6) rfl ?_
    have g6 := DGet.k (k := Sum.inr (S u0)) (s6 _ _ d5)
    rw [get_sgn, hsg] at g6
    refine ⟨pd, _, rfl, g6, ?_⟩
    walk_at "w"
    refine w_ndec (fun h4 => ?_) (fun h4 => ?_)
    · walk_at "w"
      exact in2 (s5.tr s6) (.inr fun z => h4 z.symm)
    walk_at "w"
    refine w_ixL (n := 0) (SqL.of hq6) rfl ?_
    walk_at "w"
    refine w_ixL (n := 1) (SqL.of hq6) rfl ?_
    walk_at "w"
    refine ⟨_, _, rfl, _, 3, RowV.same (s5.tr s6) hrow, hF, hG, rfl, by omega, ?_⟩
    walk_at "w"
    refine n_T (fun p H7 hp s7 e7 => ?_)
    refine (hQ H7 ((s5.tr s6).tr s7)).2 ⟨u0, n, u1, b3 (u0 :: u1 :: u2 :: u3 :: us, ps), none⟩ p ?_ rfl rfl e7
    unfold itm
    rw [ew0, if_neg h1, if_neg (fun y => by rcases y with y | y; rw [hsg] at y; cases y; exact absurd h2' (by have : (u0 :: u1 :: u2 :: u3 :: us).length < 4 := y; omega)), if_neg]
    · rfl
    · intro z
      rcases z with z | z
      · exact z (by cases hh : isName u1 with | true => exact hh | false => rw [hh] at h3; cases h3)
      · exact z (by rw [hsg, ← h4]; rfl)

theorem nodup_at {l : List (List Nat)} : l.Nodup ↔ ∀ j (h : j < l.length), l[j] ∉ l.take j := by
  unfold List.Nodup
  rw [List.pairwise_iff_getElem]
  constructor
  · intro h j hj hm
    obtain ⟨i, hi, e⟩ := List.getElem_of_mem hm
    rw [List.getElem_take] at e
    rw [List.length_take] at hi
    exact h i j (by omega) hj (by omega) e
  · intro h i j hi hj hij e
    refine h j hj ?_
    rw [← e]
    have : i < (l.take j).length := by rw [List.length_take]; omega
    have := List.getElem_mem this
    rwa [List.getElem_take] at this
def sp_law_leans_fit : Sp := sp2 fun x y H Q _ => ∃ (q : Addr) (ws : List (List Nat)) (own : List Nat), x = .ref q ∧ H q = some (.lst (Ws ws)) ∧ y = .str (S own) ∧ ws.length ≤ 1000 ∧ (∀ w ∈ ws, w.length ≤ 10000) ∧ ∀ H', Same H H' → Q (.bl (lfit ws own)) H'
theorem ok_law_leans_fit (T : Txt w K mg) {fd : FuncData} (F : Fn_law_leans_fit K fd) (hm : mg "_law_leans_fit" = some (.ref (He.ga K "_law_leans_fit"))) (c_law_is_name : CalX P w K mg base CX0 1 "_law_is_name" sp_law_is_name) : CalX P w K mg base CX0 2 "_law_leans_fit" sp_law_leans_fit := by
  refine calx0 (k := 1) F hm sc_law_leans_fit (b_law_leans_fit F) (fun _ _ _ _ h => sp2_len h) (fun cdv A outer s H vs Q E hr h => ?_)
  obtain ⟨x0, x1, rfl, h⟩ := h
  refine ⟨_, (pss_cons (ps_if (pt_cmpR op_ltI (pe_callB call_lenQ (by rfl) T.f_len PySem.boot_len (pa_cons (pv 0) pa_nil)) pe_int (nomark _))
    (pss_one (ps_ret pe_bl))
    pss_nil)
    (pss_cons (ps_for PassesOwn.never rfl (pi_range2 (by rfl) T.f_range (pa_cons pe_int (pa_cons (pe_callB call_lenQ (by rfl) T.f_len PySem.boot_len (pa_cons (pv 0) pa_nil)) pa_nil))) (pg_name (i := 2) sc_law_leans_fit.nd rfl (Or.inl rfl))
    (pss_one (ps_if (PW.pt (pw_or (pt_not (pt_val (pe_cx c_law_is_name hr (by decide) rfl pass0 (pa_cons (pe_ix ix_list (pv 0) (pv 2) (fun _ _ => rfl)) pa_nil)))) (pw_or (pt_cmpR op_eq (pe_ix ix_list (pv 0) (pv 2) (fun _ _ => rfl)) (pv 1) (nomark _)) (pw_or1 (pt_cmpR op_in_seq (pe_ix ix_list (pv 0) (pv 2) (fun _ _ => rfl)) (pe_slice sl_list (pv 0) (po_some pe_int) (po_some (pv 2))) rfl)))))
    (pss_one (ps_ret pe_bl))
    pss_nil)))
    (pss_one (ps_ret pe_bl)))), ?_⟩
  rw [show start ["words", "own", "k"] [x0, x1] = [some x0, some x1, none] from rfl]
  obtain ⟨q, ws, own, rfl, hq, rfl, hl, hlw, hQ⟩ := h
  have no : lfit ws own = false → ∀ H', Same H H' → Q (.bl false) H' := fun e => e ▸ hQ
  try dsimp only [cxOf]
  walk_at "w"
  refine w_lenL (SqL.of hq) ?_
  rw [ws_len]
  walk_at "w"
  refine w_dec (fun h1 => ?_) (fun h1 => ?_)
  · walk_at "w"
    refine no ?_ H (Same.refl _)
    unfold lfit
    rw [decide_eq_false (by omega : ¬ 2 ≤ ws.length)]; rfl
  walk_at "w"
  refine w_lenL (SqL.of hq) ?_
  rw [ws_len]
  walk_at "w"
  refine w_rg2 (by omega) ?_
  have dl : (ws.drop 1).length = ws.length - 1 := List.length_drop
  refine for_range (fun i σ H' => Same H H' ∧ (∃ v, σ = [some (.ref q), some (.str (S own)), v]) ∧ ∀ j (h : j < (ws.drop 1).length), j < i → isName (ws.drop 1)[j] = true ∧ (ws.drop 1)[j] ≠ own ∧ (ws.drop 1)[j] ∉ (ws.drop 1).take j) ⟨Same.refl _, ⟨_, rfl⟩, fun j _ h => absurd h (Nat.not_lt_zero _)⟩ ?_ ?_
  · rintro i σ H' hi ⟨sm, ⟨v, rfl⟩, hj⟩
    have hi : i + 1 < ws.length := by omega
    have hi' : i < (ws.drop 1).length := by omega
    have hw : ws[i + 1]? = some (ws.drop 1)[i] := by rw [List.getElem_drop, List.getElem?_eq_getElem hi]; congr 2; omega
    have hwl := hlw _ (List.mem_of_getElem? hw)
    have bad : ¬ (isName (ws.drop 1)[i] = true ∧ (ws.drop 1)[i] ≠ own ∧ (ws.drop 1)[i] ∉ (ws.drop 1).take i) → lfit ws own = false := fun z => by
      unfold lfit
      rw [Bool.and_eq_false_iff, Bool.and_eq_false_iff]
      by_cases z1 : ∀ w ∈ ws.drop 1, isName w = true ∧ w ≠ own
      · refine .inr (decide_eq_false fun z2 => z ?_)
        obtain ⟨a, b⟩ := z1 _ (List.getElem_mem hi')
        exact ⟨a, b, nodup_at.mp z2 i hi'⟩
      · exact .inl (.inr (decide_eq_false z1))
    dsimp only [gName]
    walk_at "w"
    rw [show (1 : Int) + (i : Int) = ((i + 1 : Nat) : Int) by omega]
    have hq' := sm _ _ hq
    refine w_ixL (SqL.of hq') (ws_at hw) ?_
    walk_at "w"
    refine ⟨_, rfl, _, rfl, by omega, fun H2 s2 => ?_⟩
    walk_at "w"
    have hq2 := s2 _ _ hq'
    have sm2 := sm.tr s2
    refine w_b (fun h2 => ?_) (fun h2 => ?_)
    · walk_at "w"
      exact no (bad fun z => by rw [z.1] at h2; cases h2) _ sm2
    walk_at "w"
    refine w_ixL (SqL.of hq2) (ws_at hw) ?_
    walk_at "w"
    refine w_dec (fun h3 => ?_) (fun h3 => ?_)
    · walk_at "w"
      exact no (bad fun z => z.2.1 h3) _ sm2
    walk_at "w"
    refine w_ixL (SqL.of hq2) (ws_at hw) ?_
    walk_at "w"
    refine n_mid (a := 1) (b := i + 1) (SqL.of hq2) (fun p3 H3 hp3 s3 e3 => ?_)
    have et : ((Ws ws).drop 1).take (i + 1 - 1) = (((ws.drop 1).take i).map fun r => V.str (S r)) := by
      rw [Nat.add_sub_cancel, List.map_take, List.map_drop]; rfl
    refine w_inLst (SqL.of e3) et ?_
    walk_at "w"
    refine w_dec (fun h4 => ?_) (fun h4 => ?_)
    · walk_at "w"
      exact no (bad fun z => z.2.2 h4) _ (sm2.tr s3)
    · walk_at "w"
      refine ⟨sm2.tr s3, ⟨_, rfl⟩, fun j h hji => ?_⟩
      by_cases e : j = i
      · subst e
        exact ⟨(by cases hh : isName (ws.drop 1)[j] with | true => rfl | false => rw [hh] at h2; cases h2), h3, h4⟩
      · exact hj j h (by omega)
  · rintro σ H' ⟨sm, ⟨v, rfl⟩, hj⟩
    walk_at "w"
    have := hQ H' sm
    have e : lfit ws own = true := by
      unfold lfit
      rw [decide_eq_true (by omega : 2 ≤ ws.length), decide_eq_true, decide_eq_true]
      · rfl
      · exact nodup_at.mpr fun j h => (hj j h (by omega)).2.2
      · intro w hw
        obtain ⟨j, h, rfl⟩ := List.getElem_of_mem hw
        exact ⟨(hj j h (by omega)).1, (hj j h (by omega)).2.1⟩
    rw [e] at this; exact this

end
end K36

namespace K36
open PySem PySem.Spec PyProof.Rows L2 SX
local macro_rules | `(tactic| walk_at "w1") => `(tactic| (first
  | with_reducible refine w_seq ?_ | with_reducible refine w_asgN ?_ | with_reducible refine w_c ?_
  | ((with_reducible refine' w_var ?wv ?_); (case wv => exact rfl))
  | with_reducible refine w_op ?_ | with_reducible refine w_un ?_ | with_reducible refine w_next ?_ | with_reducible refine w_brk ?_ | with_reducible refine w_cnt ?_
  | with_reducible refine w_ifS ?_ | with_reducible refine w_if ?_ | with_reducible refine w_test ?_ | with_reducible refine w_tB ?_ | with_reducible refine w_bl ?_ | with_reducible refine w_blI ?_
  | with_reducible refine w_and ?_ | with_reducible refine w_or ?_ | with_reducible refine w_not ?_ | with_reducible refine w_andV ?_ | with_reducible refine w_orV ?_ | with_reducible refine w_notV ?_
  | with_reducible refine w_nil ?_ | with_reducible refine w_cons ?_ | with_reducible refine w_cb ?_ | with_reducible refine w_call ?_ | with_reducible refine w_callS ?_ | with_reducible refine w_chain ?_
  | with_reducible refine w_tupN ?_ | with_reducible refine w_lstN ?_ | with_reducible refine w_sl ?_ | with_reducible refine w_noPart ?_ | with_reducible refine w_part ?_ | with_reducible refine w_partI ?_
  | with_reducible refine w_ret ?_ | with_reducible refine w_retN ?_ | with_reducible refine w_drop ?_ | with_reducible refine w_asg ?_ | with_reducible refine w_gSub ?_
  | ((with_reducible refine' w_aug ?wv ?_); (case wv => exact rfl)) | with_reducible refine w_ipI ?_
  | with_reducible refine w_addI ?_ | with_reducible refine w_subI ?_ | with_reducible refine w_ltI ?_ | with_reducible refine w_leI ?_ | with_reducible refine w_gtI ?_ | with_reducible refine w_geI ?_
  | with_reducible refine w_eqI ?_ | with_reducible refine w_neI ?_ | with_reducible refine w_eqT ?_ | with_reducible refine w_neT ?_ | with_reducible refine w_inS ?_ | with_reducible refine w_ninS ?_
  | with_reducible refine w_absI ?_ | with_reducible refine w_intI ?_ | with_reducible refine w_maxI ?_ | with_reducible refine w_minI ?_
  | with_reducible refine w_for ?_ | with_reducible refine w_iR1 ?_ | with_reducible refine w_iR2 ?_ | with_reducible refine w_iStr ?_ | with_reducible refine w_strI ?_ | with_reducible refine w_iList ?_ | with_reducible refine w_iTup ?_
  | with_reducible refine w_bm ?_ | with_reducible refine w_bm0 ?_ | with_reducible refine w_t ?_ | with_reducible refine w_f ?_ | with_reducible refine w_nt ?_ | with_reducible refine w_nx ?_ | with_reducible refine w_rt ?_ | with_reducible refine w_bk ?_ | with_reducible refine w_ct ?_ | with_reducible refine w_nf ?_ | with_reducible refine w_lc ?_ | with_reducible refine w_yes ?_ | with_reducible refine w_neg ?_ | with_reducible refine w_intB ?_ | with_reducible refine w_fld ?_ | with_reducible refine w_setf ?_ | with_reducible refine w_faug ?_ | with_reducible refine w_meth ?_ | with_reducible refine w_bmS ?_ | with_reducible refine w_start ?_))
local macro_rules | `(tactic| walk_at "w") => `(tactic| (repeat (first | walk_at "w1" | dsimp (config := { proj := false }) only [List.set_cons_zero, List.set_cons_succ])))
section
variable {w : World} {K : PySem.W.Frag} {mg : Str → Option Value} {base : Heap}

/-! ### the judge -/
def TupScr (H : Hp) (v : V) (p : Nat × List Nat) : Prop := ∃ a, v = .ref a ∧ H a = some (.tup [.int (p.1 : Int), .str (S p.2)])
def TItem (H : Hp) (v : V) (it : Item) : Prop := ∃ a, v = .ref a ∧ match it.sc with
  | none => H a = some (.tup [.str (S it.w), .int (it.n : Int), .str (S it.nm), .str (S it.b)])
  | some (scr, e) => ∃ q us, H a = some (.tup [.str (S it.w), .int (it.n : Int), .str (S it.nm), .str (S it.b), .ref q, .int (e : Int)]) ∧ H q = some (.tup us) ∧ Paired (TupScr H) us scr
/-- tuples stand -/
def Tm (H H' : Hp) : Prop := ∀ b xs, H b = some (.tup xs) → H' b = some (.tup xs)
theorem tm_same {H H' : Hp} (s : Same H H') : Tm H H' := fun b xs e => s b _ e
theorem tm_ex {H H' : Hp} {p : Addr} {ys : List V} (e : H p = some (.lst ys)) (x : Ex p H H') : Tm H H' := fun b xs h => by
  have : b ≠ p := fun z => by subst z; rw [e] at h; cases h
  rw [x b this]; exact h
theorem pscr_tm {H H' : Hp} (t : Tm H H') : ∀ {us : List V} {scr : List (Nat × List Nat)}, Paired (TupScr H) us scr → Paired (TupScr H') us scr
  | _, _, .nil => .nil
  | _, _, .cons ⟨a, e, h⟩ r => .cons ⟨a, e, t _ _ h⟩ (pscr_tm t r)
theorem item_tm {H H' : Hp} (t : Tm H H') {v : V} {it : Item} (h : TItem H v it) : TItem H' v it := by
  obtain ⟨a, e, h⟩ := h
  refine ⟨a, e, ?_⟩
  cases hs : it.sc with
  | none => rw [hs] at h; exact t _ _ h
  | some p =>
    obtain ⟨scr, en⟩ := p
    rw [hs] at h
    obtain ⟨q, us, h1, h2, h3⟩ := h
    exact ⟨q, us, t _ _ h1, t _ _ h2, pscr_tm t h3⟩
theorem pitem_tm {H H' : Hp} (t : Tm H H') : ∀ {us : List V} {its : List Item}, Paired (TItem H) us its → Paired (TItem H') us its
  | _, _, .nil => .nil
  | _, _, .cons h r => .cons (item_tm t h) (pitem_tm t r)
theorem _root_.L2.Same.none {H H' : Hp} (s : Same H H') {p : Addr} (h : H' p = none) : H p = none := by
  cases e : H p with
  | none => rfl
  | some o => rw [s p o e] at h; cases h
theorem sm_ex {H H1 H2 : Hp} {p : Addr} (s : Same H H1) (hp : H p = none) (x : Ex p H1 H2) : Same H H2 := fun b o e => by
  rw [x b (ne_of_none e hp)]; exact s b o e
/-- the judge's slots and what it has found, by the state -/
def Mt (H H' : Hp) (i : Nat) (pl pi : Addr) (own : List Nat) (s : Int) : St0 → Prop
  | .title => s = 0 ∧ H' pl = some (.lst (Ws [])) ∧ H' pi = some (.lst [])
  | .after o => s = 1 ∧ own = o ∧ H' pl = some (.lst (Ws [])) ∧ H' pi = some (.lst [])
  | .items o leans acc => s = 2 ∧ own = o ∧ H' pl = some (.lst (Ws leans)) ∧ ∃ vs, H' pi = some (.lst vs) ∧ Paired (TItem H') vs acc ∧ vs.length ≤ i
  | .script o leans acc it scr => s = 3 ∧ own = o ∧ H' pl = some (.lst (Ws leans)) ∧ it.sc = none ∧ ∃ vs t sl us, H' pi = some (.lst (vs ++ [.ref t])) ∧ Paired (TItem H') vs acc ∧ H' t = some (.tup [.str (S it.w), .int (it.n : Int), .str (S it.nm), .str (S it.b), .ref sl]) ∧
      H' sl = some (.lst us) ∧ Paired (TupScr H') us scr ∧ H sl = none ∧ sl ≠ pi ∧ sl ≠ pl ∧ vs.length ≤ i ∧ us.length ≤ i
theorem mt_same {H H1 H2 : Hp} {i : Nat} {pl pi : Addr} {own : List Nat} {s : Int} (sm : Same H1 H2) {st : St0} (h : Mt H H1 i pl pi own s st) : Mt H H2 i pl pi own s st := by
  cases st with
  | title => obtain ⟨a, b, c⟩ := h; exact ⟨a, sm _ _ b, sm _ _ c⟩
  | after o => obtain ⟨a, b, c, d⟩ := h; exact ⟨a, b, sm _ _ c, sm _ _ d⟩
  | items o l acc => obtain ⟨a, b, c, vs, d, e, f⟩ := h; exact ⟨a, b, sm _ _ c, vs, sm _ _ d, pitem_tm (tm_same sm) e, f⟩
  | script o l acc it scr => obtain ⟨a, b, c, d, vs, t, sl, us, e, f, g, i1, i2, i3⟩ := h; exact ⟨a, b, sm _ _ c, d, vs, t, sl, us, sm _ _ e, pitem_tm (tm_same sm) f, sm _ _ g, sm _ _ i1, pscr_tm (tm_same sm) i2, i3⟩
theorem mt_up {H H1 : Hp} {i : Nat} {pl pi : Addr} {own : List Nat} {s : Int} {st : St0} (h : Mt H H1 i pl pi own s st) : Mt H H1 (i + 1) pl pi own s st := by
  cases st with
  | title => exact h
  | after o => exact h
  | items o l acc => obtain ⟨a, b, c, vs, d, e, f⟩ := h; exact ⟨a, b, c, vs, d, e, by omega⟩
  | script o l acc it scr => obtain ⟨a, b, c, d, vs, t, sl, us, e, f, g, i1, i2, i3, i4, i5, i6, i7⟩ := h; exact ⟨a, b, c, d, vs, t, sl, us, e, f, g, i1, i2, i3, i4, i5, by omega, by omega⟩
def ResL (H' : Hp) (v : Addr) : Res → Prop
  | .fault n => H' v = some (.lst [.int (n : Int)])
  | .ok own leans items => ∃ a1 a2 vs, H' v = some (.lst [.int 0, .str (S own), .ref a1, .ref a2]) ∧ H' a1 = some (.tup (Ws leans)) ∧ H' a2 = some (.tup vs) ∧ Paired (TItem H') vs items
def PageL (H : Hp) (v : V) (p : List Row) : Prop := ∃ a xs, v = .ref a ∧ H a = some (.lst xs) ∧ Paired (RowV H) xs p ∧ p.length ≤ 1000 ∧ (∀ r ∈ p, Good r ∧ Fit r)
def sp_law_judge : Sp := sp1 fun x H Q _ => ∃ p : List Row, PageL H x p ∧ ∀ v H', Same H H' → ResL H' v (rdp p 0 .title) → Q (.ref v) H'
theorem item_eq (own : List Nat) (leans : List (List Nat)) (acc : List Item) (r : Row) (n : Nat) : St0.item own leans acc r n = match itm r n with
  | none => .inr n
  | some it => .inl (if it.w = wTHM then .script own leans acc it [] else .items own leans (acc ++ [it])) := rfl
theorem prow_at {H : Hp} : ∀ {xs : List V} {p : List Row}, Paired (RowV H) xs p → ∀ i, i < p.length → ∃ v r, xs[i]? = some v ∧ p[i]? = some r ∧ RowV H v r
  | _, _, .nil, i, h => absurd h (Nat.not_lt_zero _)
  | _, _, .cons a t, 0, _ => ⟨_, _, rfl, rfl, a⟩
  | _, _, .cons a t, i + 1, h => prow_at t i (Nat.lt_of_succ_lt_succ h)
theorem paired_len {α β : Type} {R : α → β → Prop} : ∀ {xs : List α} {ys : List β}, Paired R xs ys → xs.length = ys.length
  | _, _, .nil => rfl
  | _, _, .cons _ t => congrArg Nat.succ (paired_len t)
theorem gw_cok {r : Row} (h : Good r) : ∀ w ∈ r.1, Cok w := fun w hw c hc => ((h.1 w hw).2 c hc).2.2
theorem step_title (r : Row) (n : Nat) : step .title r n = if r.1.length = 2 ∧ w0 r = wBOOK ∧ isName (r.1.getD 1 []) = true then .inl (.after (r.1.getD 1 [])) else .inr n := rfl
theorem step_after (own : List Nat) (r : Row) (n : Nat) : step (.after own) r n = if w0 r = wLEANS then (if lfit r.1 own = true then .inl (.items own (r.1.drop 1) []) else .inr n) else St0.item own [] [] r n := rfl
theorem step_items (own : List Nat) (leans : List (List Nat)) (acc : List Item) (r : Row) (n : Nat) : step (.items own leans acc) r n = St0.item own leans acc r n := rfl
theorem ok_law_judge (T : Txt w K mg) {fd : FuncData} (F : Fn_law_judge K fd) (hm : mg "_law_judge" = some (.ref (He.ga K "_law_judge"))) (c_law_is_name : CalX P w K mg base CX0 1 "_law_is_name" sp_law_is_name) (c_law_rest_of : CalX P w K mg base CX0 1 "_law_rest_of" sp_law_rest_of) (c_law_text_of : CalX P w K mg base CX0 1 "_law_text_of" sp_law_text_of) (c_law_item : CalX P w K mg base CX0 2 "_law_item" sp_law_item) (c_law_leans_fit : CalX P w K mg base CX0 2 "_law_leans_fit" sp_law_leans_fit) : CalX P w K mg base CX0 3 "_law_judge" sp_law_judge := by
  refine calx0 (k := 2) F hm sc_law_judge (b_law_judge F) (fun _ _ _ _ h => sp1_len h) (fun cdv A outer s H vs Q E hr h => ?_)
  obtain ⟨x0, rfl, h⟩ := h
  refine ⟨_, (pss_cons (ps_set (i := 1) sc_law_judge.nd rfl (Or.inl rfl) pe_str)
    (pss_cons (ps_set (i := 2) sc_law_judge.nd rfl (Or.inl rfl) (pe_lst pa_nil))
    (pss_cons (ps_set (i := 3) sc_law_judge.nd rfl (Or.inl rfl) (pe_lst pa_nil))
    (pss_cons (ps_set (i := 4) sc_law_judge.nd rfl (Or.inl rfl) pe_int)
    (pss_cons (ps_for PassesOwn.never rfl (pi_range1 (by rfl) T.f_range (pa_cons (pe_callB call_lenQ (by rfl) T.f_len PySem.boot_len (pa_cons (pv 0) pa_nil)) pa_nil)) (pg_name (i := 5) sc_law_judge.nd rfl (Or.inl rfl))
    (pss_cons (ps_set (i := 6) sc_law_judge.nd rfl (Or.inl rfl) (pe_ix ix_list (pe_ix ix_list (pv 0) (pv 5) (fun _ _ => rfl)) pe_int (fun _ _ => rfl)))
    (pss_cons (ps_if (PW.pt (pw_or (pt_cmpR op_geI (pv 5) pe_int (nomark _)) (pw_or1 (pt_cmpR op_gtI (pe_callB call_lenT (by rfl) T.f_len PySem.boot_len (pa_cons (pe_cx c_law_text_of hr (by decide) rfl pass0 (pa_cons (pe_ix ix_list (pv 0) (pv 5) (fun _ _ => rfl)) pa_nil)) pa_nil)) pe_int (nomark _)))))
    (pss_one (ps_ret (pe_lst (pa_cons (pe_op op_addI (pv 5) pe_int) pa_nil))))
    pss_nil)
    (pss_cons (ps_if (PW.pt (pw_or (pt_cmpR (op_eqD hr.units) (pv 6) (pe_lst pa_nil) (nomark _)) (pw_or1 (pt_cmpR op_eq (pe_ix ix_str (pe_ix ix_list (pv 6) pe_int (fun _ _ => rfl)) pe_int (fun _ _ => rfl)) pe_str (nomark _)))))
    (pss_one ps_continue)
    pss_nil)
    (pss_one (ps_if (PW.pt (pw_and (pt_cmpR op_eq (pv 4) pe_int (nomark _)) (pw_and1 (pt_cmpR (op_eqD hr.units) (pv 6) (pe_lst (pa_cons pe_str pa_nil)) (nomark _)))))
    (pss_cons (ps_asg (pe_op op_catT (pe_slice sl_tup (pe_ix ix_list (pv 3) (pe_un un_neg pe_int) (fun _ _ => rfl)) po_none (po_some pe_int)) (pe_tup (pa_cons (pe_callTy call_tupL (by rfl) T.f_tuple (by decide +kernel) (pa_cons (pe_ix ix_tup (pe_ix ix_list (pv 3) (pe_un un_neg pe_int) (fun _ _ => rfl)) pe_int (fun _ _ => rfl)) pa_nil)) (pa_cons (pe_op op_addI (pv 5) pe_int) pa_nil)))) (pg_sub (pv 3) (pe_un un_neg pe_int) set_list))
    (pss_one (ps_set (i := 4) sc_law_judge.nd rfl (Or.inl rfl) pe_int)))
    (pss_one (ps_if (pt_cmpR op_eq (pv 4) pe_int (nomark _))
    (pss_one (ps_expr (pe_bm PySem.F.plainAttrs_list PySem.F.slot_list_append PySem.F.type_list_append mt_append (pe_ix ix_tup (pe_ix ix_list (pv 3) (pe_un un_neg pe_int) (fun _ _ => rfl)) pe_int (fun _ _ => rfl)) (pa_cons (pe_tup (pa_cons (pe_op op_addI (pv 5) pe_int) (pa_cons (pe_cx c_law_rest_of hr (by decide) rfl pass0 (pa_cons (pe_ix ix_list (pv 0) (pv 5) (fun _ _ => rfl)) (pa_cons pe_int pa_nil))) pa_nil))) pa_nil))))
    (pss_one (ps_if (pt_cmpR op_eq (pv 4) pe_int (nomark _))
    (pss_cons (ps_if (PW.pt (pw_or (pt_cmpR op_ne (pe_callB call_lenQ (by rfl) T.f_len PySem.boot_len (pa_cons (pv 6) pa_nil)) pe_int (nomark _)) (pw_or (pt_cmpR op_ne (pe_ix ix_list (pv 6) pe_int (fun _ _ => rfl)) pe_str (nomark _)) (pw_or1 (pt_not (pt_val (pe_cx c_law_is_name hr (by decide) rfl pass0 (pa_cons (pe_ix ix_list (pv 6) pe_int (fun _ _ => rfl)) pa_nil))))))))
    (pss_one (ps_ret (pe_lst (pa_cons (pe_op op_addI (pv 5) pe_int) pa_nil))))
    pss_nil)
    (pss_cons (ps_set (i := 1) sc_law_judge.nd rfl (Or.inl rfl) (pe_ix ix_list (pv 6) pe_int (fun _ _ => rfl)))
    (pss_one (ps_set (i := 4) sc_law_judge.nd rfl (Or.inl rfl) pe_int))))
    (pss_one (ps_if (PW.pt (pw_and (pt_cmpR op_eq (pv 4) pe_int (nomark _)) (pw_and1 (pt_cmpR op_eq (pe_ix ix_list (pv 6) pe_int (fun _ _ => rfl)) pe_str (nomark _)))))
    (pss_cons (ps_if (pt_not (pt_val (pe_cx c_law_leans_fit hr (by decide) rfl pass0 (pa_cons (pv 6) (pa_cons (pv 1) pa_nil)))))
    (pss_one (ps_ret (pe_lst (pa_cons (pe_op op_addI (pv 5) pe_int) pa_nil))))
    pss_nil)
    (pss_cons (ps_set (i := 2) sc_law_judge.nd rfl (Or.inl rfl) (pe_slice sl_list (pv 6) (po_some pe_int) po_none))
    (pss_one (ps_set (i := 4) sc_law_judge.nd rfl (Or.inl rfl) pe_int))))
    (pss_cons (ps_set (i := 7) sc_law_judge.nd rfl (Or.inl rfl) (pe_cx c_law_item hr (by decide) rfl pass0 (pa_cons (pv 6) (pa_cons (pe_ix ix_list (pv 0) (pv 5) (fun _ _ => rfl)) (pa_cons (pe_op op_addI (pv 5) pe_int) pa_nil)))))
    (pss_cons (ps_if (pt_cmpR op_isN (pv 7) pe_non (nomark _))
    (pss_one (ps_ret (pe_lst (pa_cons (pe_op op_addI (pv 5) pe_int) pa_nil))))
    pss_nil)
    (pss_cons (ps_set (i := 4) sc_law_judge.nd rfl (Or.inl rfl) pe_int)
    (pss_cons (ps_if (pt_cmpR op_eq (pe_ix ix_tup (pv 7) pe_int (fun _ _ => rfl)) pe_str (nomark _))
    (pss_cons (ps_set (i := 7) sc_law_judge.nd rfl (Or.inl rfl) (pe_op op_catT (pv 7) (pe_tup (pa_cons (pe_lst pa_nil) pa_nil))))
    (pss_one (ps_set (i := 4) sc_law_judge.nd rfl (Or.inl rfl) pe_int)))
    pss_nil)
    (pss_one (ps_expr (pe_bm PySem.F.plainAttrs_list PySem.F.slot_list_append PySem.F.type_list_append mt_append (pv 3) (pa_cons (pv 7) pa_nil))))))))))))))))))))
    (pss_cons (ps_if (PW.pt (pw_or (pt_cmpR op_eq (pv 4) pe_int (nomark _)) (pw_or1 (pt_cmpR op_eq (pv 4) pe_int (nomark _)))))
    (pss_one (ps_ret (pe_lst (pa_cons (pe_op op_addI (pe_callB call_lenQ (by rfl) T.f_len PySem.boot_len (pa_cons (pv 0) pa_nil)) pe_int) pa_nil))))
    pss_nil)
    (pss_one (ps_ret (pe_lst (pa_cons pe_int (pa_cons (pv 1) (pa_cons (pe_callTy call_tupL (by rfl) T.f_tuple (by decide +kernel) (pa_cons (pv 2) pa_nil)) (pa_cons (pe_callTy call_tupL (by rfl) T.f_tuple (by decide +kernel) (pa_cons (pv 3) pa_nil)) pa_nil))))))))))))), ?_⟩
  rw [show start ["page", "own", "leans", "items", "state", "k", "words", "item"] [x0] = [some x0, none, none, none, none, none, none, none] from rfl]
  have ec0 : Str.ofString "" = S [] := S_ofs (by decide +kernel)
  have ec1 : Str.ofString "#" = S [35] := S_ofs (by decide +kernel)
  have ec2 : Str.ofString "qed" = S [113,101,100] := S_ofs (by decide +kernel)
  have ec3 : Str.ofString "book" = S [98,111,111,107] := S_ofs (by decide +kernel)
  have ec4 : Str.ofString "leans" = S [108,101,97,110,115] := S_ofs (by decide +kernel)
  have ec5 : Str.ofString "theorem" = S [116,104,101,111,114,101,109] := S_ofs (by decide +kernel)
  rw [ec0, ec1, ec2, ec3, ec4, ec5]
  obtain ⟨p, ⟨pa, xs, rfl, hpa, hpr, hpl, hpg⟩, hQ⟩ := h
  have hxl := paired_len hpr
  try dsimp only [cxOf]
  walk_at "w"
  refine n_L (fun pl H1 hpl1 s1 e1 => ?_)
  walk_at "w"
  refine n_L (fun pi H2 hpi2 s2 e2 => ?_)
  walk_at "w"
  have sm2 := s1.tr s2
  have npl : pl ≠ pi := ne_of_none e1 hpi2
  have hpi : H pi = none := s1.none hpi2
  refine w_lenL (SqL.of (sm2 _ _ hpa)) ?_
  rw [hxl]
  walk_at "w"
  refine w_rg1 (by omega) (by omega) ?_
  refine for_range (fun i σ H' => Same H H' ∧ ∃ st : St0, rdp p 0 .title = rdp (p.drop i) i st ∧ ∃ (pl pi : Addr) (own : List Nat) (s : Int) (v1 v2 v3 : Option V), σ = [some (.ref pa), some (.str (S own)), some (.ref pl), some (.ref pi), some (.int s), v1, v2, v3] ∧ pl ≠ pi ∧ H pi = none ∧ Mt H H' i pl pi own s st)
    ⟨sm2, .title, rfl, pl, pi, [], 0, _, _, _, rfl, npl, hpi, rfl, s2 _ _ e1, e2⟩ ?_ ?_
  · clear npl hpi sm2 s1 s2 e1 e2 hpl1 hpi2 pl pi H1 H2
    rintro i σ H' hi ⟨sm, st, hrd0, pl, pi, own, s, v1, v2, v3, rfl, npl, hpi, hM⟩
    have hi : i < p.length := hi
    obtain ⟨xi, r, hxi, hri, hrow⟩ := prow_at hpr i hi
    obtain ⟨hGr, hFr⟩ := hpg r (List.mem_of_getElem? hri)
    have hdr : p.drop i = r :: p.drop (i + 1) := by
      obtain ⟨a, rfl⟩ := List.getElem?_eq_some_iff.mp hri
      exact List.drop_eq_getElem_cons a
    rw [hdr, rdp_cons] at hrd0
    have flt : ∀ (n : Nat) (v : Addr) (H3 : Hp), Same H H3 → rdp p 0 .title = .fault n → H3 v = some (.lst [.int (n : Int)]) → Q (.ref v) H3 := fun n v H3 s3 er e3 => hQ v H3 s3 (by rw [er]; exact e3)
    have q1 := sm _ _ hpa
    obtain ⟨ra, b2, b3, rfl, hra, hb2, hb3⟩ := hrow
    have hr1 : RowV H (.ref ra) r := ⟨ra, b2, b3, rfl, hra, hb2, hb3⟩
    dsimp only [gName]
    walk_at "w"
    rw [show (0 : Int) + (i : Int) = (i : Int) by omega]
    refine w_ixL (SqL.of q1) hxi ?_
    walk_at "w"
    refine w_ixL (n := 0) (SqL.of (sm _ _ hra)) rfl ?_
    walk_at "w"
    refine w_dec (fun h1 => ?_) (fun h1 => ?_)
    · walk_at "w"
      refine n_L (fun p3 H3 hp3 s3 e3 => ?_)
      refine flt (i + 1) p3 H3 (sm.tr s3) ?_ e3
      rw [hrd0, if_pos (by unfold wide; rw [decide_eq_true (by omega : 400 ≤ i)]; rfl)]
    walk_at "w"
    refine w_ixL (SqL.of q1) hxi ?_
    walk_at "w"
    refine ⟨_, rfl, r, hr1.same sm, hFr, ?_⟩
    walk_at "w"
    refine w_lenS (szl hFr.2.2) ?_
    walk_at "w"
    refine w_dec (fun h2 => ?_) (fun h2 => ?_)
    · walk_at "w"
      refine n_L (fun p3 H3 hp3 s3 e3 => ?_)
      refine flt (i + 1) p3 H3 (sm.tr s3) ?_ e3
      rw [hrd0, if_pos (by unfold wide; rw [decide_eq_true (by omega : 2000 < (textOf r).length), Bool.or_true])]
    have hnw : ¬ wide r i = true := by
      unfold wide
      rw [decide_eq_false (by omega : ¬ 400 ≤ i), decide_eq_false (by omega : ¬ 2000 < (textOf r).length)]; decide
    rw [if_neg hnw] at hrd0
    walk_at "w"
    refine n_L (fun p3 H3 hp3 s3 e3 => ?_)
    refine w_eqW (ws := r.1) (vs := []) (SqL.of (s3 _ _ (sm _ _ hb2))) (SqL.of e3) (gw_cok hGr) (fun w hw => by cases hw) ?_
    have sm3 := sm.tr s3
    have hM3 : Mt H H3 i pl pi own s st := mt_same s3 hM
    walk_at "w"
    have cont : ∀ {H4 : Hp} (b : Option V), Same H3 H4 → blank r = true → Same H H4 ∧ ∃ st : St0, rdp p 0 .title = rdp (p.drop (i + 1)) (i + 1) st ∧ ∃ (pl' pi' : Addr) (own' : List Nat) (s' : Int) (u1 u2 u3 : Option V), [some (.ref pa), some (.str (S own)), some (.ref pl), some (.ref pi), some (.int s), some (.int (i : Int)), some (.ref b2), v3] = [some (.ref pa), some (.str (S own')), some (.ref pl'), some (.ref pi'), some (.int s'), u1, u2, u3] ∧ pl' ≠ pi' ∧ H pi' = none ∧ Mt H H4 (i + 1) pl' pi' own' s' st := fun b s4 hb => by
      rw [if_pos hb] at hrd0
      exact ⟨sm3.tr s4, st, hrd0, pl, pi, own, s, _, _, _, rfl, npl, hpi, mt_up (mt_same s4 hM3)⟩
    refine w_dec (fun h3 => ?_) (fun h3 => ?_)
    · walk_at "w"
      exact cont none (Same.refl _) (by unfold blank; rw [decide_eq_true h3]; rfl)
    obtain ⟨u0, us, hr0⟩ : ∃ u0 us, r.1 = u0 :: us := by
      cases hh : r.1 with
      | nil => exact absurd hh h3
      | cons a b => exact ⟨a, b, rfl⟩
    have hw0 : w0 r = u0 := by unfold w0; rw [hr0]; rfl
    have hu0 := hGr.1 u0 (by rw [hr0]; exact List.mem_cons_self)
    obtain ⟨c0, u0', hc0⟩ : ∃ c0 u0', u0 = c0 :: u0' := by
      cases hh : u0 with
      | nil => exact absurd hh hu0.1
      | cons a b => exact ⟨a, b, rfl⟩
    have q7 : H3 b2 = some (.lst (Ws r.1)) := sm3 _ _ hb2
    have a0 : (Ws r.1)[0]? = some (.str (S u0)) := by rw [hr0]; rfl
    have l0 := gw_len hFr (w := u0) (by rw [hr0]; exact List.mem_cons_self)
    walk_at "w"
    refine w_ixL (n := 0) (SqL.of q7) a0 ?_
    walk_at "w"
    refine w_ixS (n := 0) (c := c0) (szl l0) (by rw [hc0]; rfl) ?_
    walk_at "w"
    refine w_dec (fun h4 => ?_) (fun h4 => ?_)
    · walk_at "w"
      refine cont none (Same.refl _) ?_
      unfold blank
      have : c0 = 35 := by injection h4
      rw [hw0, hc0, this]; simp
    have hnb : ¬ blank r = true := by
      unfold blank
      rw [decide_eq_false h3, hw0, hc0]
      have : c0 ≠ 35 := fun z => h4 (by rw [z])
      simpa using this
    rw [if_neg hnb] at hrd0
    have hne : r.1 ≠ [] := h3
    walk_at "w"
    have q6 : H3 pa = some (.lst xs) := sm3 _ _ hpa
    have hr6 : RowV H3 (.ref ra) r := hr1.same sm3
    have sm6 := sm3
    have hWl : r.1.length ≤ 1000 := hFr.2.1
    cases st with
    | title =>
      obtain ⟨rfl, ml, mi⟩ := hM3
      have hrd : rdp p 0 .title = match step .title r (i + 1) with | .inr n => .fault n | .inl st' => rdp (p.drop (i + 1)) (i + 1) st' := hrd0
      rw [step_title] at hrd
      refine w_dec (fun z => absurd z (by decide)) (fun _ => ?_)
      walk_at "w"
      refine w_dec (fun z => absurd z (by decide)) (fun _ => ?_)
      walk_at "w"
      refine w_dec (fun _ => ?_) (fun z => absurd rfl z)
      walk_at "w"
      have bad : ∀ H4, Same H3 H4 → ¬ (r.1.length = 2 ∧ w0 r = wBOOK ∧ isName (r.1.getD 1 []) = true) → NewL [.int ((i : Int) + 1)] H4 Q := fun H4 s4 z => by
        refine n_L (fun p5 H5 hp5 s5 e5 => ?_)
        exact flt (i + 1) p5 H5 ((sm3.tr s4).tr s5) (by rw [hrd, if_neg z]) e5
      refine w_lenL (SqL.of q7) ?_
      rw [ws_len]
      walk_at "w"
      refine w_ndec (fun h5 => ?_) (fun h5 => ?_)
      · walk_at "w"
        exact bad _ (Same.refl _) fun z => h5 (by rw [z.1]; rfl)
      walk_at "w"
      refine w_ixL (n := 0) (SqL.of q7) a0 ?_
      walk_at "w"
      refine w_ndec (fun h6 => ?_) (fun h6 => ?_)
      · walk_at "w"
        exact bad _ (Same.refl _) fun z => h6 (by rw [← hw0, z.2.1]; rfl)
      have h5' : us.length = 1 := by
        have : r.1.length = 2 := by omega
        rw [hr0] at this; simpa using this
      obtain ⟨u1, rfl⟩ : ∃ u1, us = [u1] := by
        match us, h5' with
        | [u1], _ => exact ⟨u1, rfl⟩
      have a1 : (Ws r.1)[1]? = some (.str (S u1)) := by rw [hr0]; rfl
      have l1 := gw_len hFr (w := u1) (by rw [hr0]; simp)
      have g1 : r.1.getD 1 [] = u1 := by rw [hr0]; rfl
      walk_at "w"
      refine w_ixL (n := 1) (SqL.of q7) a1 ?_
      walk_at "w"
      refine ⟨_, rfl, u1, rfl, by omega, fun H8 s8 => ?_⟩
      walk_at "w"
      refine w_b (fun h7 => ?_) (fun h7 => ?_)
      · walk_at "w"
        exact bad _ s8 fun z => by rw [g1] at z; rw [z.2.2] at h7; cases h7
      walk_at "w"
      refine w_ixL (n := 1) (SqL.of (s8 _ _ q7)) a1 ?_
      walk_at "w"
      refine ⟨sm3.tr s8, .after u1, ?_, pl, pi, u1, 1, _, _, _, rfl, npl, hpi, rfl, rfl, s8 _ _ ml, s8 _ _ mi⟩
      have hn1 : isName u1 = true := by cases hh : isName u1 with | true => rfl | false => rw [hh] at h7; cases h7
      rw [hrd, if_pos ⟨by omega, by rw [hw0, h6]; rfl, by rw [g1]; exact hn1⟩, g1]
    | after o =>
      obtain ⟨rfl, rfl, ml, mi⟩ := hM3
      have hrd : rdp p 0 .title = match step (.after own) r (i + 1) with | .inr n => .fault n | .inl st' => rdp (p.drop (i + 1)) (i + 1) st' := hrd0
      rw [step_after] at hrd
      refine w_dec (fun z => absurd z (by decide)) (fun _ => ?_)
      walk_at "w"
      refine w_dec (fun z => absurd z (by decide)) (fun _ => ?_)
      walk_at "w"
      refine w_dec (fun z => absurd z (by decide)) (fun _ => ?_)
      walk_at "w"
      refine w_dec (fun _ => ?_) (fun z => absurd rfl z)
      walk_at "w"
      refine w_ixL (n := 0) (SqL.of q7) a0 ?_
      walk_at "w"
      refine w_dec (fun h5 => ?_) (fun h5 => ?_)
      · rw [if_pos (by rw [hw0, h5]; rfl)] at hrd
        walk_at "w"
        refine ⟨_, _, rfl, b2, r.1, own, rfl, q7, rfl, hWl, fun w hw => gw_len hFr hw, fun H8 s8 => ?_⟩
        walk_at "w"
        refine w_b (fun h7 => ?_) (fun h7 => ?_)
        · walk_at "w"
          refine n_L (fun p5 H5 hp5 s5 e5 => ?_)
          refine flt (i + 1) p5 H5 ((sm3.tr s8).tr s5) ?_ e5
          rw [hrd, if_neg (fun z => by rw [z] at h7; cases h7)]
        · walk_at "w"
          refine n_from (a := 1) (SqL.of (s8 _ _ q7)) (fun p9 H9 hp9 s9 e9 => ?_)
          walk_at "w"
          have mi9 := s9 _ _ (s8 _ _ mi)
          refine ⟨(sm3.tr s8).tr s9, .items own (r.1.drop 1) [], ?_, p9, pi, own, 2, _, _, _, rfl, Ne.symm (ne_of_none (s8 _ _ mi) hp9), hpi, rfl, rfl, ?_, [], mi9, .nil, Nat.zero_le _⟩
          · rw [hrd, if_pos (by cases hh : lfit r.1 own with | true => rfl | false => rw [hh] at h7; cases h7)]
          · rw [e9]; unfold Ws; rw [List.map_drop]
      · have hstep : (if w0 r = wLEANS then (if lfit r.1 own = true then (.inl (.items own (r.1.drop 1) []) : St0 ⊕ Nat) else .inr (i + 1)) else St0.item own [] [] r (i + 1)) = St0.item own [] [] r (i + 1) := if_neg fun z => h5 (by rw [← hw0, z]; rfl)
        obtain ⟨leans, hle⟩ : ∃ l : List (List Nat), l = [] := ⟨_, rfl⟩
        obtain ⟨acc, hac⟩ : ∃ l : List Item, l = [] := ⟨_, rfl⟩
        obtain ⟨vs, hvs⟩ : ∃ l : List V, l = [] := ⟨_, rfl⟩
        rw [hstep, ← hle, ← hac] at hrd
        rw [← hle] at ml
        rw [← hvs] at mi
        have mv : Paired (TItem H3) vs acc := by rw [hvs, hac]; exact .nil
        have mn : vs.length ≤ i := by rw [hvs]; exact Nat.zero_le _
        clear hstep hle hac hvs
        walk_at "w"
        refine w_ixL (SqL.of q6) hxi ?_
        walk_at "w"
        refine ⟨_, _, _, rfl, b2, r, i + 1, rfl, q7, hr6, hGr, hFr, hne, by show V.int ((i : Int) + 1) = V.int ((i + 1 : Nat) : Int); rfl, fun H8 s8 => ⟨fun e0 => ?_, fun it t e0 en es et => ?_⟩⟩
        · walk_at "w"
          refine ⟨rfl, ?_⟩
          walk_at "w"
          refine w_dec (fun _ => ?_) (fun z => absurd rfl z)
          walk_at "w"
          refine n_L (fun p9 H9 hp9 s9 e9 => ?_)
          refine flt (i + 1) p9 H9 ((sm6.tr s8).tr s9) ?_ e9
          rw [hrd, item_eq, e0]
        · walk_at "w"
          refine ⟨rfl, ?_⟩
          walk_at "w"
          refine w_dec (fun z => by cases z) (fun _ => ?_)
          walk_at "w"
          refine w_ixU (n := 0) (SqT.of et) rfl ?_
          walk_at "w"
          have pl8 := s8 _ _ ml
          have pi8 := s8 _ _ mi
          have P8 : Paired (TItem H8) vs acc := pitem_tm (tm_same s8) mv
          refine w_dec (fun ht => ?_) (fun ht => ?_)
          · have ht : it.w = wTHM := ht
            walk_at "w"
            refine n_L (fun pn H9 hpn s9 e9 => ?_)
            walk_at "w"
            refine n_T (fun pt H10 hpt s10 e10 => ?_)
            refine n_catU (SqT.of (s10 _ _ (s9 _ _ et))) (SqT.of e10) (by simp) (by simp) (Nat.le_of_ble_eq_true rfl) (fun t11 H11 ht11 s11 e11 => ?_)
            walk_at "w"
            have s811 := (s9.tr s10).tr s11
            refine n_lTy (s811 _ _ pi8) ?_
            walk_at "w"
            refine n_app (s811 _ _ pi8) (by omega) (fun H12 e12 x12 => ?_)
            walk_at "w"
            have npn : pn ≠ pi := Ne.symm (ne_of_none pi8 hpn)
            have nt11 : t11 ≠ pi := fun z => by rw [z] at e11; rw [s811 _ _ pi8] at e11; cases e11
            refine ⟨sm_ex ((sm6.tr s8).tr s811) hpi x12, .script own leans acc it [], ?_, pl, pi, own, 3, _, _, _, rfl, npl, hpi, rfl, rfl, by rw [x12 pl npl]; exact s811 _ _ pl8, es, vs, t11, pn, [], e12, pitem_tm (tm_ex (s811 _ _ pi8) x12) (pitem_tm (tm_same s811) P8), ?_, ?_, .nil, (sm6.tr s8).none hpn, npn, Ne.symm (ne_of_none pl8 hpn), by omega, Nat.zero_le _⟩
            · rw [hrd, item_eq, e0]; dsimp only; rw [if_pos ht]
            · rw [x12 t11 nt11, e11, en]; rfl
            · rw [x12 pn npn]; exact s11 _ _ (s10 _ _ e9)
          · have ht : ¬ it.w = wTHM := ht
            walk_at "w"
            refine n_lTy pi8 ?_
            walk_at "w"
            refine n_app pi8 (by omega) (fun H12 e12 x12 => ?_)
            walk_at "w"
            refine ⟨sm_ex (sm6.tr s8) hpi x12, .items own leans (acc ++ [it]), ?_, pl, pi, own, 2, _, _, _, rfl, npl, hpi, rfl, rfl, by rw [x12 pl npl]; exact pl8, _, e12, ?_, by rw [List.length_append]; simp; omega⟩
            · rw [hrd, item_eq, e0]; dsimp only; rw [if_neg ht]
            · refine (pitem_tm (tm_ex pi8 x12) P8).snoc ⟨t, rfl, ?_⟩
              rw [es]
              show H12 t = _
              rw [tm_ex pi8 x12 t _ et, en]
    | items o leans acc =>
      obtain ⟨rfl, rfl, ml, vs, mi, mv, mn⟩ := hM3
      have hrd : rdp p 0 .title = match step (.items own leans acc) r (i + 1) with | .inr n => .fault n | .inl st' => rdp (p.drop (i + 1)) (i + 1) st' := hrd0
      rw [step_items] at hrd
      refine w_dec (fun z => absurd z (by decide)) (fun _ => ?_)
      walk_at "w"
      refine w_dec (fun z => absurd z (by decide)) (fun _ => ?_)
      walk_at "w"
      refine w_dec (fun z => absurd z (by decide)) (fun _ => ?_)
      walk_at "w"
      refine w_dec (fun z => absurd z (by decide)) (fun _ => ?_)
      walk_at "w"
      refine w_ixL (SqL.of q6) hxi ?_
      walk_at "w"
      refine ⟨_, _, _, rfl, b2, r, i + 1, rfl, q7, hr6, hGr, hFr, hne, by show V.int ((i : Int) + 1) = V.int ((i + 1 : Nat) : Int); rfl, fun H8 s8 => ⟨fun e0 => ?_, fun it t e0 en es et => ?_⟩⟩
      · walk_at "w"
        refine ⟨rfl, ?_⟩
        walk_at "w"
        refine w_dec (fun _ => ?_) (fun z => absurd rfl z)
        walk_at "w"
        refine n_L (fun p9 H9 hp9 s9 e9 => ?_)
        refine flt (i + 1) p9 H9 ((sm6.tr s8).tr s9) ?_ e9
        rw [hrd, item_eq, e0]
      · walk_at "w"
        refine ⟨rfl, ?_⟩
        walk_at "w"
        refine w_dec (fun z => by cases z) (fun _ => ?_)
        walk_at "w"
        refine w_ixU (n := 0) (SqT.of et) rfl ?_
        walk_at "w"
        have pl8 := s8 _ _ ml
        have pi8 := s8 _ _ mi
        have P8 : Paired (TItem H8) vs acc := pitem_tm (tm_same s8) mv
        refine w_dec (fun ht => ?_) (fun ht => ?_)
        · have ht : it.w = wTHM := ht
          walk_at "w"
          refine n_L (fun pn H9 hpn s9 e9 => ?_)
          walk_at "w"
          refine n_T (fun pt H10 hpt s10 e10 => ?_)
          refine n_catU (SqT.of (s10 _ _ (s9 _ _ et))) (SqT.of e10) (by simp) (by simp) (Nat.le_of_ble_eq_true rfl) (fun t11 H11 ht11 s11 e11 => ?_)
          walk_at "w"
          have s811 := (s9.tr s10).tr s11
          refine n_lTy (s811 _ _ pi8) ?_
          walk_at "w"
          refine n_app (s811 _ _ pi8) (by omega) (fun H12 e12 x12 => ?_)
          walk_at "w"
          have npn : pn ≠ pi := Ne.symm (ne_of_none pi8 hpn)
          have nt11 : t11 ≠ pi := fun z => by rw [z] at e11; rw [s811 _ _ pi8] at e11; cases e11
          refine ⟨sm_ex ((sm6.tr s8).tr s811) hpi x12, .script own leans acc it [], ?_, pl, pi, own, 3, _, _, _, rfl, npl, hpi, rfl, rfl, by rw [x12 pl npl]; exact s811 _ _ pl8, es, vs, t11, pn, [], e12, pitem_tm (tm_ex (s811 _ _ pi8) x12) (pitem_tm (tm_same s811) P8), ?_, ?_, .nil, (sm6.tr s8).none hpn, npn, Ne.symm (ne_of_none pl8 hpn), by omega, Nat.zero_le _⟩
          · rw [hrd, item_eq, e0]; dsimp only; rw [if_pos ht]
          · rw [x12 t11 nt11, e11, en]; rfl
          · rw [x12 pn npn]; exact s11 _ _ (s10 _ _ e9)
        · have ht : ¬ it.w = wTHM := ht
          walk_at "w"
          refine n_lTy pi8 ?_
          walk_at "w"
          refine n_app pi8 (by omega) (fun H12 e12 x12 => ?_)
          walk_at "w"
          refine ⟨sm_ex (sm6.tr s8) hpi x12, .items own leans (acc ++ [it]), ?_, pl, pi, own, 2, _, _, _, rfl, npl, hpi, rfl, rfl, by rw [x12 pl npl]; exact pl8, _, e12, ?_, by rw [List.length_append]; simp; omega⟩
          · rw [hrd, item_eq, e0]; dsimp only; rw [if_neg ht]
          · refine (pitem_tm (tm_ex pi8 x12) P8).snoc ⟨t, rfl, ?_⟩
            rw [es]
            show H12 t = _
            rw [tm_ex pi8 x12 t _ et, en]
    | script o leans acc it scr =>
      obtain ⟨rfl, rfl, ml, hsc, vs, t, sl, us2, mi, mv, mt, msl, mus, hsl, nsi, nsp, mn, mn2⟩ := hM3
      have hrd : rdp p 0 .title = match step (.script own leans acc it scr) r (i + 1) with | .inr n => .fault n | .inl st' => rdp (p.drop (i + 1)) (i + 1) st' := hrd0
      rw [step_script] at hrd
      refine w_dec (fun _ => ?_) (fun z => absurd rfl z)
      walk_at "w"
      refine n_L (fun p4 H4 hp4 s4 e4 => ?_)
      refine w_eqW (ws := r.1) (vs := [wQED]) (SqL.of (s4 _ _ q7)) (SqL.of e4) (gw_cok hGr) (fun w hw => by rw [List.mem_singleton.mp hw]; exact (by decide : ∀ c ∈ wQED, c < 256)) ?_
      walk_at "w"
      refine w_dec (fun h5 => ?_) (fun h5 => ?_)
      · rw [if_pos h5] at hrd
        walk_at "w"
        refine w_ixLm (SqL.of (s4 _ _ mi)) ?_
        walk_at "w"
        refine n_tTo (b := 4) (SqT.of (s4 _ _ mt)) (show 4 < 5 by omega) (fun p5 H5 hp5 s5 e5 => ?_)
        walk_at "w"
        have s45 := s4.tr s5
        refine w_ixLm (SqL.of (s45 _ _ mi)) ?_
        walk_at "w"
        refine w_ixU (n := 4) (SqT.of (s45 _ _ mt)) rfl ?_
        walk_at "w"
        refine n_tup (SqL.of (s45 _ _ msl)) (fun p6 H6 hp6 s6 e6 => ?_)
        walk_at "w"
        refine n_T (fun p7 H7 hp7 s7 e7 => ?_)
        refine n_catU (SqT.of (s7 _ _ (s6 _ _ e5))) (SqT.of e7) (by simp) (by simp) (Nat.le_of_ble_eq_true rfl) (fun p8 H8 hp8 s8 e8 => ?_)
        have s48 := ((s45.tr s6).tr s7).tr s8
        walk_at "w"
        refine w_setLm (s48 _ _ mi) ?_
        walk_at "w"
        have x9 : Ex pi H8 (upd H8 pi (.lst (vs ++ [.ref p8]))) := fun b hb => upd_ne hb
        have e9 : upd H8 pi (.lst (vs ++ [.ref p8])) pi = some (.lst (vs ++ [.ref p8])) := upd_same
        generalize upd H8 pi (.lst (vs ++ [.ref p8])) = H9 at x9 e9 ⊢
        have tm9 : Tm H8 H9 := tm_ex (s48 _ _ mi) x9
        refine ⟨sm_ex (sm3.tr s48) hpi x9, .items own leans (acc ++ [{ it with sc := some (scr, i + 1) }]), hrd, pl, pi, own, 2, _, _, _, rfl, npl, hpi, rfl, rfl, by rw [x9 pl npl]; exact s48 _ _ ml, _, e9, ?_, by rw [List.length_append]; simp; omega⟩
        refine (pitem_tm tm9 (pitem_tm (tm_same s48) mv)).snoc ⟨p8, rfl, p6, us2, tm9 _ _ e8, tm9 _ _ (s8 _ _ (s7 _ _ e6)), pscr_tm tm9 (pscr_tm (tm_same s48) mus)⟩
      · rw [if_neg h5] at hrd
        walk_at "w"
        refine w_dec (fun _ => ?_) (fun z => absurd rfl z)
        walk_at "w"
        refine w_ixLm (SqL.of (s4 _ _ mi)) ?_
        walk_at "w"
        refine w_ixU (n := 4) (SqT.of (s4 _ _ mt)) rfl ?_
        walk_at "w"
        refine n_lTy (s4 _ _ msl) ?_
        walk_at "w"
        refine w_ixL (SqL.of (s4 _ _ q6)) hxi ?_
        walk_at "w"
        refine ⟨_, _, rfl, r, 0, hr6.same s4, hFr, hGr, rfl, by omega, ?_⟩
        walk_at "w"
        refine n_T (fun p5 H5 hp5 s5 e5 => ?_)
        walk_at "w"
        have s45 := s4.tr s5
        refine n_app (s45 _ _ msl) (by omega) (fun H6 e6 x6 => ?_)
        walk_at "w"
        have tm6 : Tm H5 H6 := tm_ex (s45 _ _ msl) x6
        refine ⟨sm_ex (sm3.tr s45) hsl x6, .script own leans acc it (scr ++ [(i + 1, b0 r)]), hrd, pl, pi, own, 3, _, _, _, rfl, npl, hpi, rfl, rfl, by rw [x6 pl (Ne.symm nsp)]; exact s45 _ _ ml, hsc, vs, t, sl, _, by rw [x6 pi (Ne.symm nsi)]; exact s45 _ _ mi, pitem_tm tm6 (pitem_tm (tm_same s45) mv), tm6 _ _ (s45 _ _ mt), e6, ?_, hsl, nsi, nsp, by omega, by rw [List.length_append]; simp; omega⟩
        exact (pscr_tm tm6 (pscr_tm (tm_same s45) mus)).snoc ⟨p5, rfl, tm6 _ _ e5⟩
  · clear npl hpi sm2 s1 s2 e1 e2 hpl1 hpi2 pl pi H1 H2
    rintro σ H' ⟨sm, st, hrd0, pl, pi, own, s, v1, v2, v3, rfl, npl, hpi, hM⟩
    have hln : ((p.length : Int)).toNat = p.length := Int.toNat_natCast _
    rw [hln, List.drop_length] at hrd0
    rw [hln] at hM
    walk_at "w"
    cases st with
    | title =>
      obtain ⟨rfl, ml, mi⟩ := hM
      refine w_dec (fun _ => ?_) (fun z => absurd rfl z)
      walk_at "w"
      refine w_lenL (SqL.of (sm _ _ hpa)) ?_
      rw [hxl]
      walk_at "w"
      refine n_L (fun p3 H3 hp3 s3 e3 => ?_)
      exact hQ p3 H3 (sm.tr s3) (by rw [hrd0]; exact e3)
    | after o =>
      obtain ⟨rfl, rfl, ml, mi⟩ := hM
      refine w_dec (fun z => absurd z (by decide)) (fun _ => ?_)
      walk_at "w"
      refine w_dec (fun z => absurd z (by decide)) (fun _ => ?_)
      walk_at "w"
      refine n_tup (SqL.of ml) (fun p3 H3 hp3 s3 e3 => ?_)
      walk_at "w"
      refine n_tup (SqL.of (s3 _ _ mi)) (fun p4 H4 hp4 s4 e4 => ?_)
      walk_at "w"
      refine n_L (fun p5 H5 hp5 s5 e5 => ?_)
      exact hQ p5 H5 (((sm.tr s3).tr s4).tr s5) (by rw [hrd0]; exact ⟨p3, p4, [], e5, s5 _ _ (s4 _ _ e3), s5 _ _ e4, .nil⟩)
    | items o leans acc =>
      obtain ⟨rfl, rfl, ml, vs, mi, mv, mn⟩ := hM
      refine w_dec (fun z => absurd z (by decide)) (fun _ => ?_)
      walk_at "w"
      refine w_dec (fun z => absurd z (by decide)) (fun _ => ?_)
      walk_at "w"
      refine n_tup (SqL.of ml) (fun p3 H3 hp3 s3 e3 => ?_)
      walk_at "w"
      refine n_tup (SqL.of (s3 _ _ mi)) (fun p4 H4 hp4 s4 e4 => ?_)
      walk_at "w"
      refine n_L (fun p5 H5 hp5 s5 e5 => ?_)
      have s35 := (s3.tr s4).tr s5
      exact hQ p5 H5 (sm.tr s35) (by rw [hrd0]; exact ⟨p3, p4, vs, e5, s5 _ _ (s4 _ _ e3), s5 _ _ e4, pitem_tm (tm_same s35) mv⟩)
    | script o leans acc it scr =>
      obtain ⟨rfl, rfl, ml, hsc, vs, t, sl, us2, mi, mv, mt, msl, mus, hsl, nsi, nsp, mn, mn2⟩ := hM
      refine w_dec (fun z => absurd z (by decide)) (fun _ => ?_)
      walk_at "w"
      refine w_dec (fun _ => ?_) (fun z => absurd rfl z)
      walk_at "w"
      refine w_lenL (SqL.of (sm _ _ hpa)) ?_
      rw [hxl]
      walk_at "w"
      refine n_L (fun p3 H3 hp3 s3 e3 => ?_)
      exact hQ p3 H3 (sm.tr s3) (by rw [hrd0]; exact e3)

end
end K36

namespace K36
open PySem PySem.Spec PyProof.Rows L2 SX
local macro_rules | `(tactic| walk_at "w1") => `(tactic| (first
  | with_reducible refine w_seq ?_ | with_reducible refine w_asgN ?_ | with_reducible refine w_c ?_
  | ((with_reducible refine' w_var ?wv ?_); (case wv => exact rfl))
  | with_reducible refine w_op ?_ | with_reducible refine w_un ?_ | with_reducible refine w_next ?_ | with_reducible refine w_brk ?_ | with_reducible refine w_cnt ?_
  | with_reducible refine w_ifS ?_ | with_reducible refine w_if ?_ | with_reducible refine w_test ?_ | with_reducible refine w_tB ?_ | with_reducible refine w_bl ?_ | with_reducible refine w_blI ?_
  | with_reducible refine w_and ?_ | with_reducible refine w_or ?_ | with_reducible refine w_not ?_ | with_reducible refine w_andV ?_ | with_reducible refine w_orV ?_ | with_reducible refine w_notV ?_
  | with_reducible refine w_nil ?_ | with_reducible refine w_cons ?_ | with_reducible refine w_cb ?_ | with_reducible refine w_call ?_ | with_reducible refine w_callS ?_ | with_reducible refine w_chain ?_
  | with_reducible refine w_tupN ?_ | with_reducible refine w_lstN ?_ | with_reducible refine w_sl ?_ | with_reducible refine w_noPart ?_ | with_reducible refine w_part ?_ | with_reducible refine w_partI ?_
  | with_reducible refine w_ret ?_ | with_reducible refine w_retN ?_ | with_reducible refine w_drop ?_ | with_reducible refine w_asg ?_ | with_reducible refine w_gSub ?_
  | ((with_reducible refine' w_aug ?wv ?_); (case wv => exact rfl)) | with_reducible refine w_ipI ?_
  | with_reducible refine w_addI ?_ | with_reducible refine w_subI ?_ | with_reducible refine w_ltI ?_ | with_reducible refine w_leI ?_ | with_reducible refine w_gtI ?_ | with_reducible refine w_geI ?_
  | with_reducible refine w_eqI ?_ | with_reducible refine w_neI ?_ | with_reducible refine w_eqT ?_ | with_reducible refine w_neT ?_ | with_reducible refine w_inS ?_ | with_reducible refine w_ninS ?_
  | with_reducible refine w_absI ?_ | with_reducible refine w_intI ?_ | with_reducible refine w_maxI ?_ | with_reducible refine w_minI ?_
  | with_reducible refine w_for ?_ | with_reducible refine w_iR1 ?_ | with_reducible refine w_iR2 ?_ | with_reducible refine w_iStr ?_ | with_reducible refine w_strI ?_ | with_reducible refine w_iList ?_ | with_reducible refine w_iTup ?_
  | with_reducible refine w_bm ?_ | with_reducible refine w_bm0 ?_ | with_reducible refine w_t ?_ | with_reducible refine w_f ?_ | with_reducible refine w_nt ?_ | with_reducible refine w_nx ?_ | with_reducible refine w_rt ?_ | with_reducible refine w_bk ?_ | with_reducible refine w_ct ?_ | with_reducible refine w_nf ?_ | with_reducible refine w_lc ?_ | with_reducible refine w_yes ?_ | with_reducible refine w_neg ?_ | with_reducible refine w_intB ?_ | with_reducible refine w_fld ?_ | with_reducible refine w_setf ?_ | with_reducible refine w_faug ?_ | with_reducible refine w_meth ?_ | with_reducible refine w_bmS ?_ | with_reducible refine w_start ?_))
local macro_rules | `(tactic| walk_at "w") => `(tactic| (repeat (first | walk_at "w1" | dsimp (config := { proj := false }) only [List.set_cons_zero, List.set_cons_succ])))
section
variable {w : World} {K : PySem.W.Frag} {mg : Str → Option Value} {base : Heap}
def okI (u : Value) : Prop := ∃ i t, u = .int i t ∧ i.natAbs.log2 < 1920
def okVI (v : V) : Prop := ∃ i, v = .int i ∧ i.natAbs.log2 < 1920
theorem okH : ∀ v u, RelV v u → okVI v → okI u := fun v u r h => by
  obtain ⟨i, rfl, h⟩ := h
  obtain ⟨t, rfl⟩ := r
  exact ⟨i, t, rfl, h⟩
theorem int_len {i : Int} (h : i.natAbs.log2 < 1920) : (Str.ofString (toString i)).length ≤ 2000 := by
  have e := int_text_length_le (k := 1920) (by decide) h
  rw [PySem.ofString_length]; omega
theorem msg_f3 {prog : Program} {w : World} {env : Env} {L : Addr} {m : Str → Option Value} {z z2 y : Str} {j j2} {p1 p2 p3 p4 pos : Pos} {i : Int} {ti : Tok} (hL : env.locals = L) (hv : m y = some (.int i ti)) (hi : i.natAbs.log2 < 1920) (hz : z.length + (toString i : Str).length + z2.length ≤ sizeLine)
    (hk : env.scope.kind = .function) (hl : env.kindOf y = some .local) (hd : (y == ("__debug__" : Str)) = false) :
    PySem.HallX.MsgOk prog w env L m (.JoinedStr [.Constant (.str z) j p1, .FormattedValue (.Name y p2) (-1) none p3, .Constant (.str z2) j2 p4] pos) := fun A E s Q hn h => by
  refine wpAny_JoinedStr ?_
  rw [PySem.HallX.evalEach_cons, PySem.HallX.evalEach_cons, PySem.HallX.evalEach_cons, PySem.HallX.evalEach_nil]
  have e0 : (Str.empty ++ z) = z := by
    obtain ⟨a⟩ := z
    show (⟨#[] ++ a⟩ : Str) = ⟨a⟩
    simp
  refine Calls.Constant_str ⟨z, _, rfl, ?_, ?_⟩
  · rw [e0]; omega
  · rw [e0]
    refine wpAny_FormattedValue_plain (PySem.HallX.ldv (s := { s with toks := s.toks + 1 }) hn hL hv ?_ hk hl hd)
    refine wpAny_formatField_int hi ⟨_, _, rfl, ?_, ?_⟩
    · rw [Str.length_append]; omega
    · refine Calls.Constant_str ⟨z2, _, rfl, ?_, ?_, ?_⟩
      · rw [Str.length_append, Str.length_append]; exact hz
      · rw [Str.length_append, Str.length_append]; exact hz
      · exact h _ _ _
theorem j_BadBook (w : World) : PySem.HallX.Init1 PySem.Challenge.pw_lemmahall_k36_whole_book_texts w "line" okI h_BadBook.qual h_BadBook.params h_BadBook.body h_BadBook.scope where
  head := ⟨_, rfl, rfl⟩
  bind := fun _ _ _ _ _ _ _ _ _ => rfl
  bd := ⟨_, _, _, _, _, _, _, _, _, _, _, rfl, fun L fI cc cd m v hv ⟨i, t, e, hi⟩ => by
      subst e
      exact msg_f3 rfl hv hi (Nat.le_trans (Nat.add_le_add_right (Nat.add_le_add_left (int_len hi) _) _) (by decide)) rfl rfl (by decide), fun _ _ => rfl, fun _ _ => rfl⟩
  hys := by decide
  hyd := by decide
  hks := rfl
  hkc := rfl
  hka := rfl
  hky := rfl
  hk := rfl
  hco := rfl
  hgen := rfl
  hcell := by decide +kernel
theorem w_raiseH {C : Addr} {y : Str} {okV : V → Prop} {W : WX} {ta : TA} {D : Ends} {σ : L2.St} {H : Hp} (h : ta σ H fun vs H1 => ∃ v, vs = [v] ∧ okV v ∧ ∀ d, H1 d = none → W (.ref C) (some d) σ (upd H1 d (.xd [(y, v)]))) : tRaiseH C y okV W ta D σ H := h
theorem small_log {n : Nat} (h : n ≤ 100000) : ((n : Int)).natAbs.log2 < 1920 := by
  rw [Int.natAbs_natCast]
  by_cases z : n = 0
  · subst z; decide
  · exact (Nat.log2_lt z).mpr (Nat.lt_of_le_of_lt h (Nat.lt_of_lt_of_le (by decide : 100000 < 2 ^ 17) (Nat.pow_le_pow_right (by decide) (by decide))))

/-! ### the program's lines -/
def KB (x : Addr) (H H' : Hp) : Prop := ∀ b o, b ≠ x → H b = some o → H' b = some o
theorem KB.refl (x : Addr) (H : Hp) : KB x H H := fun _ _ _ e => e
theorem KB.tr {x : Addr} {H H1 H2 : Hp} (h : KB x H H1) (k : KB x H1 H2) : KB x H H2 := fun b o n e => k b o n (h b o n e)
theorem KB.same {x : Addr} {H H1 : Hp} (s : Same H H1) : KB x H H1 := fun b o _ e => s b o e
theorem KB.ex {x : Addr} {H H1 : Hp} (e : Ex x H H1) : KB x H H1 := fun b o n h => by rw [e b n]; exact h
def BL (K : PySem.W.Frag) (H : Hp) (x : Addr) (pg : List Row) (n : Nat) : Prop := ∃ dx pl, H x = some (.ins (He.ga K "BookLines") dx [("_lines", .ref pl), ("_place", .int (n : Int))]) ∧ H pl = some (.lst (Ws (pg.map textOf))) ∧ pl ≠ x
theorem BL.same {K : PySem.W.Frag} {H H1 : Hp} {x : Addr} {pg : List Row} {n : Nat} (s : Same H H1) (h : BL K H x pg n) : BL K H1 x pg n := by
  obtain ⟨dx, pl, a, b, c⟩ := h; exact ⟨dx, pl, s _ _ a, s _ _ b, c⟩
def PgOk (pg : List Row) : Prop := pg.length ≤ 1000 ∧ ∀ r ∈ pg, Good r ∧ Fit r
def sp_BookLines_init (K : PySem.W.Frag) : Sp := sp2 fun x y H Q _ => ∃ (a dx : Addr) (ls : List (List Nat)), x = .ref a ∧ H a = some (.ins (He.ga K "BookLines") dx []) ∧ y = .str (S (TL.joinL [10] ls)) ∧ ls ≠ [] ∧ (∀ l ∈ ls, 10 ∉ l) ∧ (TL.joinL [10] ls).length ≤ 10000000 ∧
  ∀ H' pl, KB a H H' → H' a = some (.ins (He.ga K "BookLines") dx [("_lines", .ref pl), ("_place", .int 0)]) → H' pl = some (.lst (Ws ls)) → pl ≠ a → Q .non H'
theorem ok_BookLines_init (T : Txt w K mg) {fd : FuncData} (F : Fn_BookLines_init K fd)  : MakX P w K mg base CX0 1 (He.ga K "BookLines") (sp_BookLines_init K) := by
  have hm := T.mk_BookLines
  refine makx (CX := CX0) (k := 0) F hm sc_BookLines_init (b_BookLines_init F) (fun _ _ _ _ h => sp2_len h) (fun cdv A outer s H vs Q E hr h => ?_)
  obtain ⟨x0, x1, rfl, h⟩ := h
  refine ⟨_, PSs.nox (pss_cons (ps_fld (pv 0) (pe_bm PySem.F.plainAttrs_str PySem.F.slot_str_split PySem.F.type_str_split mt_splitS (pv 1) (pa_cons pe_str pa_nil)) rfl)
    (pss_one (ps_fld (pv 0) pe_int rfl))), ?_⟩
  rw [show start ["self", "text"] [x0, x1] = [some x0, some x1] from rfl]
  have ec0 : Str.ofString "\n" = S [10] := S_ofs (by decide +kernel)
  rw [ec0]
  obtain ⟨a, dx, ls, rfl, ha, rfl, hne, hno, hlen, hQ⟩ := h
  try dsimp only [cxOf]
  walk_at "w"
  refine n_split (by decide) (szl (show _ ≤ 10000002 by omega)) (fun p H1 hp s1 e1 => ?_)
  rw [TL.spl_join (s := 10) (S := []) hne hno] at e1
  walk_at "w"
  refine w_setfA (s1 _ _ ha) T.k_BookLines T.a_BookLines_lines (by decide) ?_
  walk_at "w"
  have hpa : p ≠ a := Ne.symm (ne_of_none ha hp)
  refine w_setfA upd_same T.k_BookLines T.a_BookLines_place (by show 1 < 1000; omega) ?_
  rw [upd_upd]
  walk_at "w"
  refine hQ _ p (fun b o n e => by rw [upd_ne n]; exact s1 b o e) (by rw [upd_same]; rfl) (by rw [upd_ne hpa]; exact e1) hpa

def sp_BookLines_beyond (K : PySem.W.Frag) : Sp := sp1 fun a H Q _ => ∃ (x : Addr) (pg : List Row) (n : Nat), a = .ref x ∧ BL K H x pg n ∧ Q (.int ((pg.length : Int) + 1)) H
theorem ok_BookLines_beyond (T : Txt w K mg) {fd : FuncData} (F : Fn_BookLines_beyond K fd)  : MetX P w K mg base CX0 1 (He.ga K "BookLines") "beyond" (sp_BookLines_beyond K) := by
  have hm := T.m_BookLines_beyond
  refine metx (CX := CX0) (k := 0) F hm sc_BookLines_beyond (b_BookLines_beyond F) (fun _ _ _ _ h => sp1_len h) (fun cdv A outer s H vs Q E hr h => ?_)
  obtain ⟨x0, rfl, h⟩ := h
  refine ⟨_, PSs.nox (pss_one (ps_ret (pe_op op_addI (pe_callB call_lenQ (by rfl) T.f_len PySem.boot_len (pa_cons (pe_fld (pv 0) rfl) pa_nil)) pe_int))), ?_⟩
  rw [show start ["self"] [x0] = [some x0] from rfl]
  obtain ⟨x, pg, n, rfl, ⟨dx, pl, hx, hpl, hne⟩, hQ⟩ := h
  try dsimp only [cxOf]
  walk_at "w"
  refine w_fldA hx T.k_BookLines T.a_BookLines_lines rfl ?_
  walk_at "w"
  refine w_lenL (SqL.of hpl) ?_
  rw [ws_len, List.length_map]
  walk_at "w"
  exact hQ

def sp_BookLines_following (K : PySem.W.Frag) : Sp := sp1 fun a H Q E => ∃ (x : Addr) (pg : List Row) (n : Nat), a = .ref x ∧ BL K H x pg n ∧ PgOk pg ∧ n ≤ pg.length ∧
  (∀ m, skip (pg.drop n) n = .bad m → ∀ d H', KB x H H' → H' d = some (.xd [("line", .int (m : Int))]) → E (.ref (He.ga K "BadBook")) (some d) H') ∧
  (skip (pg.drop n) n = .eof → ∀ H', KB x H H' → BL K H' x pg pg.length → Q .non H') ∧
  (∀ m r rest, skip (pg.drop n) n = .at_ m r rest → ∀ t H', KB x H H' → BL K H' x pg m → H' t = some (.tup [.int (m : Int), .str (S (b0 r))]) → Q (.ref t) H')
theorem skip_cons (r : Row) (rs : List Row) (k : Nat) : skip (r :: rs) k = if wide r k = true then .bad (k + 1) else if blank r = true then skip rs (k + 1) else .at_ (k + 1) r rs := rfl
theorem ok_BookLines_following (T : Txt w K mg) {fd : FuncData} (F : Fn_BookLines_following K fd)  : MetX P w K mg base (L2.CX P w) 1 (He.ga K "BookLines") "following" (sp_BookLines_following K) := by
  have hm := T.m_BookLines_following
  refine metx (CX := (L2.CX P w)) (k := 0) F hm sc_BookLines_following (b_BookLines_following F) (fun _ _ _ _ h => sp1_len h) (fun cdv A outer s H vs Q E hr h => ?_)
  obtain ⟨x0, rfl, h⟩ := h
  refine ⟨_, (pss_cons (ps_while (passes_of rfl) (pt_cmpR op_ltI (pe_fld (pv 0) rfl) (pe_callB call_lenQ (by rfl) T.f_len PySem.boot_len (pa_cons (pe_fld (pv 0) rfl) pa_nil)) (nomark _))
    (pss_cons (ps_set (i := 1) sc_BookLines_following.nd rfl (Or.inl rfl) (pe_ix ix_list (pe_fld (pv 0) rfl) (pe_fld (pv 0) rfl) (fun _ _ => rfl)))
    (pss_cons (ps_fldaug (pv 0) pe_int in_add)
    (pss_cons (ps_if (PW.pt (pw_or (pt_cmpR op_gtI (pe_fld (pv 0) rfl) (pe_gv T.v_MAX_LINES) (nomark _)) (pw_or1 (pt_cmpR op_gtI (pe_callB call_lenT (by rfl) T.f_len PySem.boot_len (pa_cons (pv 1) pa_nil)) (pe_gv T.v_MAX_WIDTH) (nomark _)))))
    (pss_one (ps_raiseH rfl T.h_BadBook (j_BadBook _) T.n_BadBook okH hr (takes_of rfl rfl rfl rfl) (pa_cons (pe_fld (pv 0) rfl) pa_nil) rfl))
    pss_nil)
    (pss_cons (ps_set (i := 1) sc_BookLines_following.nd rfl (Or.inl rfl) (pe_bm PySem.F.plainAttrs_str PySem.F.slot_str_strip PySem.F.type_str_strip mt_stripS (pv 1) (pa_cons pe_str pa_nil)))
    (pss_one (ps_if (PW.pt (pw_and (pt_cmpR op_ne (pv 1) pe_str (nomark _)) (pw_and1 (pt_not (pt_val (pe_bm PySem.F.plainAttrs_str PySem.F.slot_str_startswith PySem.F.type_str_startswith mt_startS (pv 1) (pa_cons pe_str pa_nil)))))))
    (pss_one (ps_ret (pe_tup (pa_cons (pe_fld (pv 0) rfl) (pa_cons (pv 1) pa_nil)))))
    pss_nil)))))))
    (pss_one (ps_ret pe_non))), ?_⟩
  rw [show start ["self", "line"] [x0] = [some x0, none] from rfl]
  have ec0 : Str.ofString " " = S [32] := S_ofs (by decide +kernel)
  have ec1 : Str.ofString "" = S [] := S_ofs (by decide +kernel)
  have ec2 : Str.ofString "#" = S [35] := S_ofs (by decide +kernel)
  rw [ec0, ec1, ec2]
  obtain ⟨x, pg, n, rfl, hB, hP, hn, hE, hQ0, hQ1⟩ := h
  try dsimp only [cxOf]
  walk_at "w"
  refine w_whl (fun m σ H' => ∃ (n' : Nat) (v : Option V), m = pg.length - n' ∧ σ = [some (.ref x), v] ∧ n' ≤ pg.length ∧ KB x H H' ∧ BL K H' x pg n' ∧ skip (pg.drop n) n = skip (pg.drop n') n') _ ⟨n, _, rfl, rfl, hn, KB.refl _ _, hB, rfl⟩ ?_
  rintro m σ H' ⟨n', v, rfl, rfl, hn', kb, ⟨dx, pl, hx, hpl, hne⟩, hsk⟩
  walk_at "w"
  refine w_fldA hx T.k_BookLines T.a_BookLines_place rfl ?_
  walk_at "w"
  refine w_fldA hx T.k_BookLines T.a_BookLines_lines rfl ?_
  walk_at "w"
  refine w_lenL (SqL.of hpl) ?_
  rw [ws_len, List.length_map]
  walk_at "w"
  refine w_dec (fun h1 => ?_) (fun h1 => ?_)
  rotate_left
  · have : n' = pg.length := by omega
    subst this
    rw [List.drop_length] at hsk
    walk_at "w"
    exact hQ0 hsk H' kb ⟨dx, pl, hx, hpl, hne⟩
  have h1' : n' < pg.length := by omega
  have hr : pg[n']? = some pg[n'] := List.getElem?_eq_getElem h1'
  have hrd := List.drop_eq_getElem_cons h1'
  obtain ⟨hG, hF⟩ := hP.2 _ (List.getElem_mem h1')
  generalize pg[n'] = r at hr hrd hG hF
  rw [hrd, skip_cons] at hsk
  refine w_turn ?_
  walk_at "w"
  refine w_fldA hx T.k_BookLines T.a_BookLines_lines rfl ?_
  walk_at "w"
  refine w_fldA hx T.k_BookLines T.a_BookLines_place rfl ?_
  walk_at "w"
  refine w_ixL (SqL.of hpl) (ws_at (w := textOf r) (by rw [List.getElem?_map, hr]; rfl)) ?_
  walk_at "w"
  refine ⟨x, _, dx, _, _, rfl, hx, T.k_BookLines, T.a_BookLines_place, rfl, ?_⟩
  walk_at "w"
  refine ⟨_, _, rfl, rfl, dx, _, hx, (by show 2 < 1000; omega), ?_⟩
  have x2 : Ex x H' (upd H' x (.ins (He.ga K "BookLines") dx (putF "_place" (.int ((n' : Int) + 1)) [("_lines", .ref pl), ("_place", .int (n' : Int))]))) := fun b hb => upd_ne hb
  have e2 : upd H' x (.ins (He.ga K "BookLines") dx (putF "_place" (.int ((n' : Int) + 1)) [("_lines", .ref pl), ("_place", .int (n' : Int))])) x = some (.ins (He.ga K "BookLines") dx [("_lines", .ref pl), ("_place", .int ((n' + 1 : Nat) : Int))]) := by rw [upd_same]; rfl
  generalize upd H' x (.ins (He.ga K "BookLines") dx (putF "_place" (.int ((n' : Int) + 1)) [("_lines", .ref pl), ("_place", .int (n' : Int))])) = H2 at x2 e2 ⊢
  have kb2 := kb.tr (KB.ex x2)
  have hpl2 : H2 pl = some (.lst (Ws (pg.map textOf))) := by rw [x2 pl hne]; exact hpl
  have l400 : n' ≤ 1000 := Nat.le_trans hn' hP.1
  have raise : ∀ {W : WX} {D : Ends} {σ : L2.St}, (∀ d H3, KB x H H3 → H3 d = some (.xd [("line", .int ((n' + 1 : Nat) : Int))]) → W (.ref (He.ga K "BadBook")) (some d) σ H3) → ∀ d, H2 d = none → W (.ref (He.ga K "BadBook")) (some d) σ (upd H2 d (.xd [("line", .int ((n' + 1 : Nat) : Int))])) := fun hW d hd => hW d _ (kb2.tr (KB.same (same_upd hd))) upd_same
  walk_at "w"
  refine w_fldA e2 T.k_BookLines T.a_BookLines_place rfl ?_
  walk_at "w"
  refine w_dec (fun h2 => ?_) (fun h2 => ?_)
  · walk_at "w"
    refine w_raiseH ?_
    walk_at "w"
    refine w_fldA e2 T.k_BookLines T.a_BookLines_place rfl ?_
    walk_at "w"
    refine ⟨_, rfl, ⟨_, rfl, small_log (by omega)⟩, fun d hd => ?_⟩
    refine hE (n' + 1) ?_ d _ (kb2.tr (KB.same (same_upd hd))) upd_same
    rw [hsk, if_pos (by unfold wide; rw [decide_eq_true (by omega : 400 ≤ n')]; rfl)]
  walk_at "w"
  refine w_lenS (szl hF.2.2) ?_
  walk_at "w"
  refine w_dec (fun h3 => ?_) (fun h3 => ?_)
  · walk_at "w"
    refine w_raiseH ?_
    walk_at "w"
    refine w_fldA e2 T.k_BookLines T.a_BookLines_place rfl ?_
    walk_at "w"
    refine ⟨_, rfl, ⟨_, rfl, small_log (by omega)⟩, fun d hd => ?_⟩
    refine hE (n' + 1) ?_ d _ (kb2.tr (KB.same (same_upd hd))) upd_same
    rw [hsk, if_pos (by unfold wide; rw [decide_eq_true (by omega : 2000 < (textOf r).length), Bool.or_true])]
  have hnw : ¬ wide r n' = true := by
    unfold wide
    rw [decide_eq_false (by omega : ¬ 400 ≤ n'), decide_eq_false (by omega : ¬ 2000 < (textOf r).length)]; decide
  rw [if_neg hnw] at hsk
  walk_at "w"
  refine w_strip (szl hF.2.2) ?_
  rw [strp_text hG]
  walk_at "w"
  have again : blank r = true → ∃ m', m' < pg.length - n' ∧ ∃ (n'' : Nat) (v : Option V), m' = pg.length - n'' ∧ [some (.ref x), some (.str (S (bd r.1 (r.2.drop 1))))] = [some (.ref x), v] ∧ n'' ≤ pg.length ∧ KB x H H2 ∧ BL K H2 x pg n'' ∧ skip (pg.drop n) n = skip (pg.drop n'') n'' := fun hb => by
    rw [if_pos hb] at hsk
    exact ⟨pg.length - (n' + 1), by omega, n' + 1, _, rfl, rfl, by omega, kb2, ⟨dx, pl, e2, hpl2, hne⟩, hsk⟩
  refine w_ndec (fun h4 => ?_) (fun h4 => ?_)
  · have hr1 : r.1 ≠ [] := fun z => h4 ((bd_nil_iff hG.1).mpr z)
    obtain ⟨u0, us, hr0⟩ : ∃ u0 us, r.1 = u0 :: us := by
      cases hh : r.1 with
      | nil => exact absurd hh hr1
      | cons a b => exact ⟨a, b, rfl⟩
    have hu0 := hG.1 u0 (by rw [hr0]; exact List.mem_cons_self)
    obtain ⟨c, l, eb, ec, _⟩ := bd_head hu0 us (r.2.drop 1)
    rw [← hr0] at eb
    have hw0 : w0 r = u0 := by unfold w0; rw [hr0]; rfl
    walk_at "w"
    refine w_ndec (fun h5 => ?_) (fun h5 => ?_)
    · have hnb : ¬ blank r = true := by
        rw [eb] at h5
        have h5' : c ≠ 35 := by simpa using h5
        unfold blank; rw [decide_eq_false hr1, hw0, ec]; simpa using h5'
      rw [if_neg hnb] at hsk
      walk_at "w"
      refine w_fldA e2 T.k_BookLines T.a_BookLines_place rfl ?_
      walk_at "w"
      refine n_T (fun p H3 hp s3 e3 => ?_)
      exact hQ1 (n' + 1) r _ hsk p H3 (kb2.tr (KB.same s3)) (BL.same s3 ⟨dx, pl, e2, hpl2, hne⟩) e3
    · walk_at "w"
      refine again ?_
      rw [eb] at h5
      have h5' : c = 35 := by simpa using h5
      unfold blank; rw [hw0, ec, h5']; simp
  · walk_at "w"
    refine again ?_
    have : r.1 = [] := (bd_nil_iff hG.1).mp h4
    unfold blank; rw [decide_eq_true this]; rfl

end
end K36

namespace K36
open PySem PySem.Spec PyProof.Rows L2 SX
local macro_rules | `(tactic| walk_at "w1") => `(tactic| (first
  | with_reducible refine w_seq ?_ | with_reducible refine w_asgN ?_ | with_reducible refine w_c ?_
  | ((with_reducible refine' w_var ?wv ?_); (case wv => exact rfl))
  | with_reducible refine w_op ?_ | with_reducible refine w_un ?_ | with_reducible refine w_next ?_ | with_reducible refine w_brk ?_ | with_reducible refine w_cnt ?_
  | with_reducible refine w_ifS ?_ | with_reducible refine w_if ?_ | with_reducible refine w_test ?_ | with_reducible refine w_tB ?_ | with_reducible refine w_bl ?_ | with_reducible refine w_blI ?_
  | with_reducible refine w_and ?_ | with_reducible refine w_or ?_ | with_reducible refine w_not ?_ | with_reducible refine w_andV ?_ | with_reducible refine w_orV ?_ | with_reducible refine w_notV ?_
  | with_reducible refine w_nil ?_ | with_reducible refine w_cons ?_ | with_reducible refine w_cb ?_ | with_reducible refine w_call ?_ | with_reducible refine w_callS ?_ | with_reducible refine w_chain ?_
  | with_reducible refine w_tupN ?_ | with_reducible refine w_lstN ?_ | with_reducible refine w_sl ?_ | with_reducible refine w_noPart ?_ | with_reducible refine w_part ?_ | with_reducible refine w_partI ?_
  | with_reducible refine w_ret ?_ | with_reducible refine w_retN ?_ | with_reducible refine w_drop ?_ | with_reducible refine w_asg ?_ | with_reducible refine w_gSub ?_
  | ((with_reducible refine' w_aug ?wv ?_); (case wv => exact rfl)) | with_reducible refine w_ipI ?_
  | with_reducible refine w_addI ?_ | with_reducible refine w_subI ?_ | with_reducible refine w_ltI ?_ | with_reducible refine w_leI ?_ | with_reducible refine w_gtI ?_ | with_reducible refine w_geI ?_
  | with_reducible refine w_eqI ?_ | with_reducible refine w_neI ?_ | with_reducible refine w_eqT ?_ | with_reducible refine w_neT ?_ | with_reducible refine w_inS ?_ | with_reducible refine w_ninS ?_
  | with_reducible refine w_absI ?_ | with_reducible refine w_intI ?_ | with_reducible refine w_maxI ?_ | with_reducible refine w_minI ?_
  | with_reducible refine w_for ?_ | with_reducible refine w_iR1 ?_ | with_reducible refine w_iR2 ?_ | with_reducible refine w_iStr ?_ | with_reducible refine w_strI ?_ | with_reducible refine w_iList ?_ | with_reducible refine w_iTup ?_
  | with_reducible refine w_bm ?_ | with_reducible refine w_bm0 ?_ | with_reducible refine w_t ?_ | with_reducible refine w_f ?_ | with_reducible refine w_nt ?_ | with_reducible refine w_nx ?_ | with_reducible refine w_rt ?_ | with_reducible refine w_bk ?_ | with_reducible refine w_ct ?_ | with_reducible refine w_nf ?_ | with_reducible refine w_lc ?_ | with_reducible refine w_yes ?_ | with_reducible refine w_neg ?_ | with_reducible refine w_intB ?_ | with_reducible refine w_fld ?_ | with_reducible refine w_setf ?_ | with_reducible refine w_faug ?_ | with_reducible refine w_meth ?_ | with_reducible refine w_bmS ?_ | with_reducible refine w_start ?_))
local macro_rules | `(tactic| walk_at "w") => `(tactic| (repeat (first | walk_at "w1" | dsimp (config := { proj := false }) only [List.set_cons_zero, List.set_cons_succ])))
section
variable {w : World} {K : PySem.W.Frag} {mg : Str → Option Value} {base : Heap}

def sp_words : Sp := sp1 fun x H Q _ => ∃ l : List Nat, x = .str (S l) ∧ l.length ≤ 10000 ∧ ∀ p H', Same H H' → H' p = some (.lst (Ws (wds l))) → Q (.ref p) H'
theorem spl_len : ∀ (l : List Nat) (acc : List Nat), (TL.spl [32] 0 acc l).length ≤ l.length + 1
  | [], acc => by rw [TL.spl_nil]; exact Nat.le_refl _
  | c :: r, acc => by
    cases h : TL.pre [32] (c :: r) with
    | true =>
      rw [TL.spl_hit h]
      have := spl_len r []
      simpa using this
    | false =>
      rw [TL.spl_miss h]
      have := spl_len r (acc ++ [c])
      simp; omega
theorem ok_words (T : Txt w K mg) {fd : FuncData} (F : Fn_words K fd) (hm : mg "_words" = some (.ref (He.ga K "_words")))  : CalX P w K mg base CX0 1 "_words" sp_words := by
  refine calx0 (k := 0) F hm sc_words (b_words F) (fun _ _ _ _ h => sp1_len h) (fun cdv A outer s H vs Q E hr h => ?_)
  obtain ⟨x0, rfl, h⟩ := h
  refine ⟨_, (pss_one (ps_ret (pe_lc (own := [("word", 1)]) (g := gName 1) (by rfl) sc_words.nd (pi_list (pe_bm PySem.F.plainAttrs_str PySem.F.slot_str_split PySem.F.type_str_split mt_splitS (pv 0) (pa_cons pe_str pa_nil))) (blkOk_by (own := [("word", 1)]) (N := ["line", "word"]) (sc := defScope s_words) (by decide +kernel)) (fun _ _ _ _ _ => pg_name (i := 1) sc_words.nd rfl (Or.inl rfl)) (fun _ _ _ _ _ => (pts_one (pt_cmpR op_ne (pv 1) pe_str (nomark _)))) (fun _ _ _ _ _ => (pv 1))))), ?_⟩
  rw [show start ["line", "word"] [x0] = [some x0, none] from rfl]
  have ec0 : Str.ofString " " = S [32] := S_ofs (by decide +kernel)
  have ec1 : Str.ofString "" = S [] := S_ofs (by decide +kernel)
  rw [ec0, ec1]
  obtain ⟨l, rfl, hl, hQ⟩ := h
  try dsimp only [cxOf]
  walk_at "w"
  refine n_split (by decide) (szl (show _ ≤ 10002 by omega)) (fun p H1 hp s1 e1 => ?_)
  walk_at "w"
  refine w_lstI (SqL.of e1) ?_
  intro D hD
  have hsl := spl_len l []
  refine lc_list (K := K) (a := p) (xs := Ws (TL.spl [32] 0 [] l)) (fun i H' => Same H1 H' ∧ H' D = some (.lst (Ws (((TL.spl [32] 0 [] l).take i).filter fun w => decide (w ≠ []))))) ⟨same_upd hD, upd_same⟩ (fun i H' _ h => SqL.of (h.1 _ _ e1)) ?_ ?_
  · rintro i x H' hx ⟨sm, hd⟩
    obtain ⟨wd, hwd, rfl⟩ : ∃ wd, (TL.spl [32] 0 [] l)[i]? = some wd ∧ x = .str (S wd) := by
      unfold Ws at hx
      rw [List.getElem?_map] at hx
      cases q : (TL.spl [32] 0 [] l)[i]? with
      | none => rw [q] at hx; cases hx
      | some k => rw [q] at hx; cases hx; exact ⟨k, rfl, rfl⟩
    have hi := (List.getElem?_eq_some_iff.mp hwd).1
    have htk : (TL.spl [32] 0 [] l).take (i + 1) = (TL.spl [32] 0 [] l).take i ++ [wd] := by
      rw [List.take_add_one, hwd]; rfl
    dsimp only [gName]
    refine ⟨rfl, ?_⟩
    walk_at "w"
    refine w_ndec (fun h1 => ?_) (fun h1 => ?_)
    · walk_at "w"
      refine ⟨_, hd, Nat.lt_of_le_of_lt (show _ ≤ 10001 by rw [ws_len]; exact Nat.le_trans (List.length_filter_le _ _) (by rw [List.length_take]; omega)) (by decide), ⟨fun b o e => by rw [upd_ne (ne_of_none e hD)]; exact sm b o e, ?_⟩⟩
      rw [upd_same, htk, List.filter_append, List.filter_cons_of_pos (by simpa using h1)]
      unfold Ws; rw [List.map_append]; rfl
    · walk_at "w"
      refine ⟨sm, ?_⟩
      rw [hd, htk, List.filter_append, List.filter_cons_of_neg (by simpa using h1)]
      simp
  · rintro H' ⟨sm, hd⟩
    rw [ws_len, List.take_length] at hd
    exact hQ D H' (s1.tr sm) hd

def sp_rest : Sp := sp2 fun x y H Q _ => ∃ (r : Row) (n : Nat), Good r ∧ Fit r ∧ x = .str (S (b0 r)) ∧ y = .int (n : Int) ∧ n ≤ 10 ∧ ∀ H', Same H H' → Q (.str (S (bd (r.1.drop n) (r.2.drop (n + 1))))) H'
theorem ok_rest (T : Txt w K mg) {fd : FuncData} (F : Fn_rest K fd) (hm : mg "_rest" = some (.ref (He.ga K "_rest")))  : CalX P w K mg base CX0 1 "_rest" sp_rest := by
  refine calx0 (k := 0) F hm sc_rest (b_rest F) (fun _ _ _ _ h => sp2_len h) (fun cdv A outer s H vs Q E hr h => ?_)
  obtain ⟨x0, x1, rfl, h⟩ := h
  refine ⟨_, (pss_cons (ps_set (i := 2) sc_rest.nd rfl (Or.inl rfl) (pe_bm PySem.F.plainAttrs_str PySem.F.slot_str_strip PySem.F.type_str_strip mt_stripS (pv 0) (pa_cons pe_str pa_nil)))
    (pss_cons (ps_for PassesOwn.never rfl (pi_range1 (by rfl) T.f_range (pa_cons (pv 1) pa_nil)) (pg_name (i := 3) sc_rest.nd rfl (Or.inl rfl))
    (pss_one (ps_set (i := 2) sc_rest.nd rfl (Or.inl rfl) (pe_bm PySem.F.plainAttrs_str PySem.F.slot_str_strip PySem.F.type_str_strip mt_stripS (pe_ix ix_tup (pe_bm PySem.F.plainAttrs_str PySem.F.slot_str_partition PySem.F.type_str_partition mt_partS (pv 2) (pa_cons pe_str pa_nil)) pe_int (fun _ _ => rfl)) (pa_cons pe_str pa_nil)))))
    (pss_one (ps_ret (pv 2))))), ?_⟩
  rw [show start ["line", "count", "rest", "_"] [x0, x1] = [some x0, some x1, none, none] from rfl]
  have ec0 : Str.ofString " " = S [32] := S_ofs (by decide +kernel)
  rw [ec0]
  obtain ⟨r, n, hG, hF, rfl, rfl, hn, hQ⟩ := h
  have hb0 := rest_len hF 0
  have e00 : b0 r = bd (r.1.drop 0) (r.2.drop (0 + 1)) := rfl
  rw [← e00] at hb0
  try dsimp only [cxOf]
  walk_at "w"
  refine w_strip (szl hb0) ?_
  have hs0 : strp (b0 r) = b0 r := strp_bd0 0 hG.1 hG.2.1
  rw [hs0]
  walk_at "w"
  refine w_rg1 (by omega) (by omega) ?_
  refine for_range (fun i σ H' => Same H H' ∧ PadOk (r.1.drop i) (r.2.drop (i + 1)) ∧ ∃ v, σ = [some (.str (S (b0 r))), some (.int (n : Int)), some (.str (S (bd (r.1.drop i) (r.2.drop (i + 1))))), v]) ⟨Same.refl _, hG.2.1, _, rfl⟩ ?_ ?_
  · rintro i σ H' hi ⟨sm, hp, v, rfl⟩
    have hgw : ∀ w ∈ r.1.drop i, Gw w := fun w hw => hG.1 w (List.mem_of_mem_drop hw)
    obtain ⟨z1, z2⟩ := rest1_bd hgw hp
    rw [List.drop_drop, List.drop_drop] at z1 z2
    have hl := rest_len hF i
    dsimp only [gName]
    walk_at "w"
    refine n_part (szl hl) (fun t H1 ht s1 e1 => ?_)
    walk_at "w"
    have fin : ∀ l3 : List Nat, l3.length ≤ 10000 → strp l3 = rest1 (bd (r.1.drop i) (r.2.drop (i + 1))) → Same H H1 → True := fun _ _ _ _ => trivial
    cases hpar : TL.par [32] [] (bd (r.1.drop i) (r.2.drop (i + 1))) with
    | none =>
      rw [hpar] at e1
      have er : rest1 (bd (r.1.drop i) (r.2.drop (i + 1))) = [] := by unfold rest1; rw [hpar]
      rw [er] at z1
      refine w_ixU (n := 2) (SqT.of e1) rfl ?_
      walk_at "w"
      refine w_strip (szl (show ([] : List Nat).length ≤ 10 by decide)) ?_
      walk_at "w"
      refine ⟨sm.tr s1, z2, some (.int ((0 : Int) + (i : Int))), ?_⟩
      rw [← z1]; rfl
    | some ab =>
      obtain ⟨a, b⟩ := ab
      rw [hpar] at e1
      have er : rest1 (bd (r.1.drop i) (r.2.drop (i + 1))) = strp b := by unfold rest1; rw [hpar]
      rw [er] at z1
      have hbl : b.length ≤ 10000 := by
        have : ∀ (l acc a b : List Nat), TL.par [32] acc l = some (a, b) → b.length ≤ l.length := by
          intro l
          induction l with
          | nil => intro acc a b h; cases h
          | cons c l ih =>
            intro acc a b h
            cases hp : TL.pre [32] (c :: l) with
            | true => rw [TL.par_hit hp] at h; cases h; simp
            | false => rw [TL.par_miss hp] at h; have := ih _ _ _ h; simp; omega
        exact Nat.le_trans (this _ _ _ _ hpar) hl
      refine w_ixU (n := 2) (SqT.of e1) rfl ?_
      walk_at "w"
      refine w_strip (szl hbl) ?_
      walk_at "w"
      refine ⟨sm.tr s1, z2, some (.int ((0 : Int) + (i : Int))), ?_⟩
      rw [← z1]
  · rintro σ H' ⟨sm, hp, v, rfl⟩
    rw [show ((n : Int)).toNat = n from Int.toNat_natCast _]
    walk_at "w"
    exact hQ H' sm

def sp_read_title (K : PySem.W.Frag) : Sp := sp1 fun a H Q E => ∃ (x : Addr) (pg : List Row), a = .ref x ∧ BL K H x pg 0 ∧ PgOk pg ∧
  (∀ m, (go (skip pg 0) .title pg.length = .fault m) → ∀ d H', KB x H H' → H' d = some (.xd [("line", .int (m : Int))]) → E (.ref (He.ga K "BadBook")) (some d) H') ∧
  (∀ m r rest own, skip pg 0 = .at_ m r rest → step .title r m = .inl (.after own) → ∀ H', KB x H H' → BL K H' x pg m → Q (.str (S own)) H')
theorem ok_read_title (T : Txt w K mg) {fd : FuncData} (F : Fn_read_title K fd) (hm : mg "_read_title" = some (.ref (He.ga K "_read_title"))) (m_BookLines_following : MetX P w K mg base (L2.CX P w) 1 (He.ga K "BookLines") "following" (sp_BookLines_following K)) (m_BookLines_beyond : MetX P w K mg base CX0 1 (He.ga K "BookLines") "beyond" (sp_BookLines_beyond K)) (c_words : CalX P w K mg base CX0 1 "_words" sp_words) (c_is_name : CalX P w K mg base CX0 1 "is_name" sp_is_name) : CalX P w K mg base (L2.CX P w) 2 "_read_title" (sp_read_title K) := by
  refine calxX (k := 1) F hm sc_read_title (b_read_title F) (fun _ _ _ _ h => sp1_len h) (fun cdv A outer s H vs Q E hr h => ?_)
  obtain ⟨x0, rfl, h⟩ := h
  refine ⟨_, (pss_cons (ps_set (i := 1) sc_read_title.nd rfl (Or.inl rfl) (pe_mx0 m_BookLines_following (pv 0) T.k_BookLines hr (by decide) (passE rfl rfl rfl rfl)))
    (pss_cons (ps_if (pt_cmpR op_isN (pv 1) pe_non (nomark _))
    (pss_one (ps_raiseH rfl T.h_BadBook (j_BadBook _) T.n_BadBook okH hr (takes_of rfl rfl rfl rfl) (pa_cons (pe_mx0 m_BookLines_beyond (pv 0) T.k_BookLines hr (by decide) pass0) pa_nil) rfl))
    pss_nil)
    (pss_cons (ps_asg (pv 1) (pg_tup (by rfl) (pgs_cons (pg_name (i := 2) sc_read_title.nd rfl (Or.inl rfl)) (pgs_cons (pg_name (i := 3) sc_read_title.nd rfl (Or.inl rfl)) pgs_nil))))
    (pss_cons (ps_set (i := 4) sc_read_title.nd rfl (Or.inl rfl) (pe_cx c_words hr (by decide) rfl pass0 (pa_cons (pv 3) pa_nil)))
    (pss_cons (ps_if (PW.pt (pw_or (pt_cmpR op_ne (pe_callB call_lenQ (by rfl) T.f_len PySem.boot_len (pa_cons (pv 4) pa_nil)) pe_int (nomark _)) (pw_or (pt_cmpR op_ne (pe_ix ix_list (pv 4) pe_int (fun _ _ => rfl)) pe_str (nomark _)) (pw_or1 (pt_not (pt_val (pe_cx c_is_name hr (by decide) rfl pass0 (pa_cons (pe_ix ix_list (pv 4) pe_int (fun _ _ => rfl)) pa_nil))))))))
    (pss_one (ps_raiseH rfl T.h_BadBook (j_BadBook _) T.n_BadBook okH hr (takes_of rfl rfl rfl rfl) (pa_cons (pv 2) pa_nil) rfl))
    pss_nil)
    (pss_one (ps_ret (pe_ix ix_list (pv 4) pe_int (fun _ _ => rfl))))))))), ?_⟩
  rw [show start ["lines", "found", "number", "line", "words"] [x0] = [some x0, none, none, none, none] from rfl]
  have ec0 : Str.ofString "book" = S [98,111,111,107] := S_ofs (by decide +kernel)
  rw [ec0]
  obtain ⟨x, pg, rfl, hB, hP, hE, hQ⟩ := h
  have hB' := hB
  obtain ⟨dx, pl, hx, hpl, hne⟩ := hB'
  try dsimp only [cxOf]
  walk_at "w"
  refine ⟨x, dx, _, rfl, hx, rfl, ?_⟩
  walk_at "w"
  refine ⟨_, rfl, x, pg, 0, rfl, hB, hP, Nat.zero_le _, fun m hm d H' kb hd => ?_, fun hm H' kb hB1 => ?_, fun m r rest hm t H' kb hB1 ht => ?_⟩
  · exact hE m (by rw [show skip pg 0 = .bad m from hm]; rfl) d H' kb hd
  · walk_at "w"
    refine ⟨rfl, ?_⟩
    walk_at "w"
    refine w_dec (fun _ => ?_) (fun z => absurd rfl z)
    walk_at "w"
    refine w_raiseH ?_
    walk_at "w"
    have hB1' := hB1
    obtain ⟨dx1, pl1, hx1, hpl1, hne1⟩ := hB1
    refine ⟨x, dx1, _, rfl, hx1, rfl, ?_⟩
    walk_at "w"
    refine ⟨_, rfl, x, pg, _, rfl, hB1', ?_⟩
    walk_at "w"
    have hlen := hP.1
    refine ⟨_, rfl, ⟨_, rfl, (small_log (n := pg.length + 1) (by omega))⟩, fun d hd => ?_⟩
    exact hE (pg.length + 1) (by rw [show skip pg 0 = .eof from hm]; rfl) d _ (kb.tr (KB.same (same_upd hd))) upd_same
  · obtain ⟨_, _, hrest, hri, hbl⟩ := skip_at pg 0 hm
    obtain ⟨hG, hF⟩ := hP.2 r (List.mem_of_getElem? hri)
    have hml : m ≤ 1000 := by have := (skip_at pg 0 hm).2.1; have := hP.1; omega
    have hne' : r.1 ≠ [] := fun z => by unfold blank at hbl; rw [decide_eq_true z] at hbl; cases hbl
    obtain ⟨u0, us, hr0⟩ : ∃ u0 us, r.1 = u0 :: us := by
      cases hh : r.1 with
      | nil => exact absurd hh hne'
      | cons a b => exact ⟨a, b, rfl⟩
    have hw0 : w0 r = u0 := by unfold w0; rw [hr0]; rfl
    have a0 : (Ws r.1)[0]? = some (.str (S u0)) := by rw [hr0]; rfl
    walk_at "w"
    refine ⟨rfl, ?_⟩
    walk_at "w"
    refine w_dec (fun z => by cases z) (fun _ => ?_)
    walk_at "w"
    refine ⟨t, _, rfl, SqT.of ht, rfl, _, _, rfl, _, _, rfl, rfl, ?_⟩
    walk_at "w"
    refine ⟨_, rfl, b0 r, rfl, (rest_len hF 0), fun p H2 s2 e2 => ?_⟩
    rw [show wds (b0 r) = r.1 from wds_bd _ _ hG.1 hG.2.1] at e2
    walk_at "w"
    have bad : ¬ (r.1.length = 2 ∧ w0 r = wBOOK ∧ isName (r.1.getD 1 []) = true) → ∀ d H3, KB x H H3 → H3 d = some (.xd [("line", .int (m : Int))]) → E (.ref (He.ga K "BadBook")) (some d) H3 := fun z d H3 kb hd => hE m (by rw [show skip pg 0 = .at_ m r rest from hm]; show (match step .title r m with | .inr k => Res.fault k | .inl st' => rdp rest m st') = _; rw [step_title, if_neg z]) d H3 kb hd
    have kb2 := kb.tr (KB.same s2)
    refine w_lenL (SqL.of e2) ?_
    rw [ws_len]
    walk_at "w"
    refine w_ndec (fun h5 => ?_) (fun h5 => ?_)
    · walk_at "w"
      refine w_raiseH ?_
      walk_at "w"
      refine ⟨_, rfl, ⟨_, rfl, small_log (by omega)⟩, fun d hd => ?_⟩
      exact bad (fun z => h5 (by rw [z.1]; rfl)) d _ (kb2.tr (KB.same (same_upd hd))) upd_same
    walk_at "w"
    refine w_ixL (n := 0) (SqL.of e2) a0 ?_
    walk_at "w"
    refine w_ndec (fun h6 => ?_) (fun h6 => ?_)
    · walk_at "w"
      refine w_raiseH ?_
      walk_at "w"
      refine ⟨_, rfl, ⟨_, rfl, small_log (by omega)⟩, fun d hd => ?_⟩
      exact bad (fun z => h6 (by rw [← hw0, z.2.1]; rfl)) d _ (kb2.tr (KB.same (same_upd hd))) upd_same
    have h5' : us.length = 1 := by
      have : r.1.length = 2 := by omega
      rw [hr0] at this; simpa using this
    obtain ⟨u1, rfl⟩ : ∃ u1, us = [u1] := by
      match us, h5' with
      | [u1], _ => exact ⟨u1, rfl⟩
    have a1 : (Ws r.1)[1]? = some (.str (S u1)) := by rw [hr0]; rfl
    have l1 := gw_len hF (w := u1) (by rw [hr0]; simp)
    have g1 : r.1.getD 1 [] = u1 := by rw [hr0]; rfl
    walk_at "w"
    refine w_ixL (n := 1) (SqL.of e2) a1 ?_
    walk_at "w"
    refine ⟨_, rfl, u1, rfl, by omega, ?_⟩
    walk_at "w"
    refine w_b (fun h7 => ?_) (fun h7 => ?_)
    · walk_at "w"
      refine w_raiseH ?_
      walk_at "w"
      refine ⟨_, rfl, ⟨_, rfl, small_log (by omega)⟩, fun d hd => ?_⟩
      exact bad (fun z => by rw [g1] at z; rw [z.2.2] at h7; cases h7) d _ (kb2.tr (KB.same (same_upd hd))) upd_same
    walk_at "w"
    refine w_ixL (n := 1) (SqL.of e2) a1 ?_
    have hn1 : isName u1 = true := by cases hh : isName u1 with | true => rfl | false => rw [hh] at h7; cases h7
    exact hQ m r rest u1 hm (by rw [step_title, if_pos ⟨by omega, by rw [hw0, h6]; rfl, by rw [g1]; exact hn1⟩, g1]) _ kb2 (BL.same s2 hB1)

end
end K36

namespace K36
open PySem PySem.Spec PyProof.Rows L2 SX
local macro_rules | `(tactic| walk_at "w1") => `(tactic| (first
  | with_reducible refine w_seq ?_ | with_reducible refine w_asgN ?_ | with_reducible refine w_c ?_
  | ((with_reducible refine' w_var ?wv ?_); (case wv => exact rfl))
  | with_reducible refine w_op ?_ | with_reducible refine w_un ?_ | with_reducible refine w_next ?_ | with_reducible refine w_brk ?_ | with_reducible refine w_cnt ?_
  | with_reducible refine w_ifS ?_ | with_reducible refine w_if ?_ | with_reducible refine w_test ?_ | with_reducible refine w_tB ?_ | with_reducible refine w_bl ?_ | with_reducible refine w_blI ?_
  | with_reducible refine w_and ?_ | with_reducible refine w_or ?_ | with_reducible refine w_not ?_ | with_reducible refine w_andV ?_ | with_reducible refine w_orV ?_ | with_reducible refine w_notV ?_
  | with_reducible refine w_nil ?_ | with_reducible refine w_cons ?_ | with_reducible refine w_cb ?_ | with_reducible refine w_call ?_ | with_reducible refine w_callS ?_ | with_reducible refine w_chain ?_
  | with_reducible refine w_tupN ?_ | with_reducible refine w_lstN ?_ | with_reducible refine w_sl ?_ | with_reducible refine w_noPart ?_ | with_reducible refine w_part ?_ | with_reducible refine w_partI ?_
  | with_reducible refine w_ret ?_ | with_reducible refine w_retN ?_ | with_reducible refine w_drop ?_ | with_reducible refine w_asg ?_ | with_reducible refine w_gSub ?_
  | ((with_reducible refine' w_aug ?wv ?_); (case wv => exact rfl)) | with_reducible refine w_ipI ?_
  | with_reducible refine w_addI ?_ | with_reducible refine w_subI ?_ | with_reducible refine w_ltI ?_ | with_reducible refine w_leI ?_ | with_reducible refine w_gtI ?_ | with_reducible refine w_geI ?_
  | with_reducible refine w_eqI ?_ | with_reducible refine w_neI ?_ | with_reducible refine w_eqT ?_ | with_reducible refine w_neT ?_ | with_reducible refine w_inS ?_ | with_reducible refine w_ninS ?_
  | with_reducible refine w_absI ?_ | with_reducible refine w_intI ?_ | with_reducible refine w_maxI ?_ | with_reducible refine w_minI ?_
  | with_reducible refine w_for ?_ | with_reducible refine w_iR1 ?_ | with_reducible refine w_iR2 ?_ | with_reducible refine w_iStr ?_ | with_reducible refine w_strI ?_ | with_reducible refine w_iList ?_ | with_reducible refine w_iTup ?_
  | with_reducible refine w_bm ?_ | with_reducible refine w_bm0 ?_ | with_reducible refine w_t ?_ | with_reducible refine w_f ?_ | with_reducible refine w_nt ?_ | with_reducible refine w_nx ?_ | with_reducible refine w_rt ?_ | with_reducible refine w_bk ?_ | with_reducible refine w_ct ?_ | with_reducible refine w_nf ?_ | with_reducible refine w_lc ?_ | with_reducible refine w_yes ?_ | with_reducible refine w_neg ?_ | with_reducible refine w_intB ?_ | with_reducible refine w_fld ?_ | with_reducible refine w_setf ?_ | with_reducible refine w_faug ?_ | with_reducible refine w_meth ?_ | with_reducible refine w_bmS ?_ | with_reducible refine w_start ?_))
local macro_rules | `(tactic| walk_at "w") => `(tactic| (repeat (first | walk_at "w1" | dsimp (config := { proj := false }) only [List.set_cons_zero, List.set_cons_succ])))
section
variable {w : World} {K : PySem.W.Frag} {mg : Str → Option Value} {base : Heap}

theorem nodup_count : ∀ {l : List (List Nat)}, l.Nodup ↔ ∀ w ∈ l, ¬ 1 < l.count w
  | [] => ⟨(fun _ w h => by cases h), fun _ => List.nodup_nil⟩
  | a :: l => by
    rw [List.nodup_cons, nodup_count (l := l)]
    constructor
    · rintro ⟨h1, h2⟩ w hw
      rw [List.count_cons]
      rcases List.mem_cons.mp hw with rfl | hw
      · rw [List.count_eq_zero.mpr h1]; simp
      · have := h2 w hw
        have hne : a ≠ w := fun z => h1 (by rw [z]; exact hw)
        rw [if_neg (by simpa using hne)]; omega
    · intro h
      refine ⟨fun hm => ?_, fun w hw z => ?_⟩
      · have := h a List.mem_cons_self
        rw [List.count_cons_self] at this
        have := List.count_pos_iff.mpr hm
        omega
      · have := h w (List.mem_cons_of_mem _ hw)
        rw [List.count_cons] at this
        omega
def sp_read_leans (K : PySem.W.Frag) : Sp := sp2 fun a y H Q E => ∃ (t : Addr) (r : Row) (m : Nat) (own : List Nat), a = .ref t ∧ H t = some (.tup [.int (m : Int), .str (S (b0 r))]) ∧ y = .str (S own) ∧ Good r ∧ Fit r ∧ m ≤ 1000 ∧ r.1 ≠ [] ∧
  (lfit r.1 own = false → ∀ d H', Same H H' → H' d = some (.xd [("line", .int (m : Int))]) → E (.ref (He.ga K "BadBook")) (some d) H') ∧
  (lfit r.1 own = true → ∀ v H', Same H H' → H' v = some (.tup (Ws (r.1.drop 1))) → Q (.ref v) H')
theorem ok_read_leans (T : Txt w K mg) {fd : FuncData} (F : Fn_read_leans K fd) (hm : mg "_read_leans" = some (.ref (He.ga K "_read_leans"))) (c_words : CalX P w K mg base CX0 1 "_words" sp_words) (c_is_name : CalX P w K mg base CX0 1 "is_name" sp_is_name) : CalX P w K mg base (L2.CX P w) 2 "_read_leans" (sp_read_leans K) := by
  refine calxX (k := 1) F hm sc_read_leans (b_read_leans F) (fun _ _ _ _ h => sp2_len h) (fun cdv A outer s H vs Q E hr h => ?_)
  obtain ⟨x0, x1, rfl, h⟩ := h
  refine ⟨_, (pss_cons (ps_asg (pv 0) (pg_tup (by rfl) (pgs_cons (pg_name (i := 2) sc_read_leans.nd rfl (Or.inl rfl)) (pgs_cons (pg_name (i := 3) sc_read_leans.nd rfl (Or.inl rfl)) pgs_nil))))
    (pss_cons (ps_set (i := 4) sc_read_leans.nd rfl (Or.inl rfl) (pe_slice sl_list (pe_cx c_words hr (by decide) rfl pass0 (pa_cons (pv 3) pa_nil)) (po_some pe_int) po_none))
    (pss_cons (ps_if (pt_cmpR op_eq (pe_callB call_lenQ (by rfl) T.f_len PySem.boot_len (pa_cons (pv 4) pa_nil)) pe_int (nomark _))
    (pss_one (ps_raiseH rfl T.h_BadBook (j_BadBook _) T.n_BadBook okH hr (takes_of rfl rfl rfl rfl) (pa_cons (pv 2) pa_nil) rfl))
    pss_nil)
    (pss_cons (ps_for (passes_of rfl) rfl (pi_list (pv 4)) (pg_name (i := 5) sc_read_leans.nd rfl (Or.inl rfl))
    (pss_one (ps_if (PW.pt (pw_or (pt_not (pt_val (pe_cx c_is_name hr (by decide) rfl pass0 (pa_cons (pv 5) pa_nil)))) (pw_or (pt_cmpR op_eq (pv 5) (pv 1) (nomark _)) (pw_or1 (pt_cmpR op_gtI (pe_bm PySem.F.plainAttrs_list PySem.F.slot_list_count PySem.F.type_list_count mt_lcountS (pv 4) (pa_cons (pv 5) pa_nil)) pe_int (nomark _))))))
    (pss_one (ps_raiseH rfl T.h_BadBook (j_BadBook _) T.n_BadBook okH hr (takes_of rfl rfl rfl rfl) (pa_cons (pv 2) pa_nil) rfl))
    pss_nil)))
    (pss_one (ps_ret (pe_callTy call_tupL (by rfl) T.f_tuple (by decide +kernel) (pa_cons (pv 4) pa_nil)))))))), ?_⟩
  rw [show start ["found", "own", "number", "line", "names", "name"] [x0, x1] = [some x0, some x1, none, none, none, none] from rfl]
  obtain ⟨t, r, m, own, rfl, ht, rfl, hG, hF, hm, hne, hE, hQ⟩ := h
  try dsimp only [cxOf]
  walk_at "w"
  refine ⟨t, _, rfl, SqT.of ht, rfl, _, _, rfl, _, _, rfl, rfl, ?_⟩
  walk_at "w"
  refine ⟨_, rfl, b0 r, rfl, (rest_len hF 0), fun p H2 s2 e2 => ?_⟩
  rw [show wds (b0 r) = r.1 from wds_bd _ _ hG.1 hG.2.1] at e2
  walk_at "w"
  refine n_from (a := 1) (SqL.of e2) (fun p3 H3 hp3 s3 e3 => ?_)
  have e3' : H3 p3 = some (.lst (Ws (r.1.drop 1))) := by rw [e3]; unfold Ws; rw [List.map_drop]
  have sm := s2.tr s3
  have bad : ¬ (2 ≤ r.1.length ∧ (∀ w ∈ r.1.drop 1, isName w = true ∧ w ≠ own) ∧ (r.1.drop 1).Nodup) → lfit r.1 own = false := fun z => by
    unfold lfit
    cases hh : (decide (2 ≤ r.1.length) && decide (∀ w ∈ r.1.drop 1, isName w = true ∧ w ≠ own) && decide ((r.1.drop 1).Nodup)) with
    | false => rfl
    | true =>
      rw [Bool.and_eq_true, Bool.and_eq_true, decide_eq_true_eq, decide_eq_true_eq, decide_eq_true_eq] at hh
      exact absurd ⟨hh.1.1, hh.1.2, hh.2⟩ z
  walk_at "w"
  refine w_lenL (SqL.of e3') ?_
  rw [ws_len]
  walk_at "w"
  have dl : (r.1.drop 1).length = r.1.length - 1 := List.length_drop
  refine w_dec (fun h1 => ?_) (fun h1 => ?_)
  · walk_at "w"
    refine w_raiseH ?_
    walk_at "w"
    refine ⟨_, rfl, ⟨_, rfl, small_log (by omega)⟩, fun d hd => ?_⟩
    exact hE (bad fun z => by omega) d _ (sm.tr (same_upd hd)) upd_same
  walk_at "w"
  refine w_lstI (SqL.of e3') ?_
  refine for_list (xs := Ws (r.1.drop 1)) (fun i σ H' => H' = H3 ∧ (∃ v, σ = [some (.ref t), some (.str (S own)), some (.int (m : Int)), some (.str (S (b0 r))), some (.ref p3), v]) ∧ ∀ j (h : j < (r.1.drop 1).length), j < i → isName (r.1.drop 1)[j] = true ∧ (r.1.drop 1)[j] ≠ own ∧ ¬ 1 < (r.1.drop 1).count (r.1.drop 1)[j]) ⟨rfl, ⟨_, rfl⟩, fun j _ h => absurd h (Nat.not_lt_zero _)⟩ (fun i σ H' _ h => by rw [h.1]; exact SqL.of e3') ?_ ?_
  · rintro i x σ H' hx ⟨rfl, ⟨v, rfl⟩, hj⟩
    obtain ⟨wd, hwd, rfl⟩ : ∃ wd, (r.1.drop 1)[i]? = some wd ∧ x = .str (S wd) := by
      unfold Ws at hx
      rw [List.getElem?_map] at hx
      cases q : (r.1.drop 1)[i]? with
      | none => rw [q] at hx; cases hx
      | some k => rw [q] at hx; cases hx; exact ⟨k, rfl, rfl⟩
    obtain ⟨hi, hwe⟩ := List.getElem?_eq_some_iff.mp hwd
    have hmem : wd ∈ r.1.drop 1 := List.mem_of_getElem? hwd
    have hwl := gw_len hF (List.mem_of_mem_drop hmem)
    dsimp only [gName]
    walk_at "w"
    refine ⟨_, rfl, wd, rfl, by omega, ?_⟩
    walk_at "w"
    refine w_b (fun h2 => ?_) (fun h2 => ?_)
    · walk_at "w"
      refine w_raiseH ?_
      walk_at "w"
      refine ⟨_, rfl, ⟨_, rfl, small_log (by omega)⟩, fun d hd => ?_⟩
      exact hE (bad fun z => by rw [(z.2.1 wd hmem).1] at h2; cases h2) d _ (sm.tr (same_upd hd)) upd_same
    walk_at "w"
    refine w_dec (fun h3 => ?_) (fun h3 => ?_)
    · walk_at "w"
      refine w_raiseH ?_
      walk_at "w"
      refine ⟨_, rfl, ⟨_, rfl, small_log (by omega)⟩, fun d hd => ?_⟩
      exact hE (bad fun z => (z.2.1 wd hmem).2 h3) d _ (sm.tr (same_upd hd)) upd_same
    walk_at "w"
    refine w_lstTyQ (SqL.of e3') ?_
    walk_at "w"
    refine w_cnt1 (SqL.of e3') ?_
    walk_at "w"
    refine w_dec (fun h4 => ?_) (fun h4 => ?_)
    · walk_at "w"
      refine w_raiseH ?_
      walk_at "w"
      refine ⟨_, rfl, ⟨_, rfl, small_log (by omega)⟩, fun d hd => ?_⟩
      exact hE (bad fun z => nodup_count.mp z.2.2 wd hmem (by omega)) d _ (sm.tr (same_upd hd)) upd_same
    · walk_at "w"
      refine ⟨rfl, ⟨_, rfl⟩, fun j h hji => ?_⟩
      by_cases e : j = i
      · subst e
        rw [hwe]
        exact ⟨(by cases hh : isName wd with | true => rfl | false => rw [hh] at h2; cases h2), h3, by omega⟩
      · exact hj j h (by omega)
  · rintro σ H' ⟨rfl, ⟨v, rfl⟩, hj⟩
    rw [ws_len] at hj
    walk_at "w"
    refine n_tup (SqL.of e3') (fun p4 H4 hp4 s4 e4 => ?_)
    refine hQ ?_ p4 H4 (sm.tr s4) e4
    unfold lfit
    have a1 : ∀ w ∈ r.1.drop 1, isName w = true ∧ w ≠ own := fun w hw => by
      obtain ⟨j, h, rfl⟩ := List.getElem_of_mem hw
      exact ⟨(hj j h h).1, (hj j h h).2.1⟩
    have a2 : (r.1.drop 1).Nodup := nodup_count.mpr fun w hw => by
      obtain ⟨j, h, rfl⟩ := List.getElem_of_mem hw
      exact (hj j h h).2.2
    rw [decide_eq_true (by omega : 2 ≤ r.1.length), decide_eq_true a1, decide_eq_true a2]; rfl

def sp_read_script (K : PySem.W.Frag) : Sp := sp1 fun a H Q E => ∃ (x : Addr) (pg : List Row) (n : Nat), a = .ref x ∧ BL K H x pg n ∧ PgOk pg ∧ n ≤ pg.length ∧
  (∀ m, scrR (pg.drop n) n [] = .bad m → ∀ d H', KB x H H' → H' d = some (.xd [("line", .int (m : Int))]) → E (.ref (He.ga K "BadBook")) (some d) H') ∧
  (∀ s m rest, scrR (pg.drop n) n [] = .done s m rest → ∀ v H' b us, KB x H H' → BL K H' x pg m → H' v = some (.tup [.ref b, .int (m : Int)]) → H' b = some (.tup us) → Paired (TupScr H') us s → Q (.ref v) H')
theorem KB.nox {x p : Addr} {H H1 H2 : Hp} (k : KB x H H1) (hp : H p = none) (e : Ex p H1 H2) : KB x H H2 := fun b o n h => by
  rw [e b (ne_of_none h hp)]; exact k b o n h
theorem tm_kb {K : PySem.W.Frag} {H H1 : Hp} {x : Addr} {pg : List Row} {n : Nat} (h : BL K H x pg n) (k : KB x H H1) : Tm H H1 := fun b xs e => by
  obtain ⟨dx, pl, a, _⟩ := h
  have : b ≠ x := fun z => by subst z; rw [a] at e; cases e
  exact k b _ this e
theorem ws_ne {α : Type} {R : V → α → Prop} {pg : List Row} {r : Row} (hm : r ∈ pg) {us : List V} {ys : List α} (h : Paired R us ys) (hR : ∀ v y, R v y → ∃ a, v = .ref a) (e : us = Ws (pg.map textOf)) : False := by
  cases pg with
  | nil => cases hm
  | cons r0 pg =>
    subst e
    cases h with
    | cons a _ =>
      obtain ⟨q, z⟩ := hR _ _ a
      cases z
/-- what has been found last -/
def Fnd (H : Hp) (v : V) : Sk → Prop
  | .bad _ => False
  | .eof => v = .non
  | .at_ m r _ => ∃ t, v = .ref t ∧ H t = some (.tup [.int (m : Int), .str (S (b0 r))])
def SkOk (pg : List Row) : Sk → Prop
  | .at_ m r rest => rest = pg.drop m ∧ m ≤ pg.length ∧ r ∈ pg ∧ r.1 ≠ [] ∧ 1 ≤ m
  | _ => True
theorem skok {pg : List Row} {k : Nat} (hk : k ≤ pg.length) {m : Nat} {r : Row} {rest : List Row} (h : skip (pg.drop k) k = .at_ m r rest) : k < m ∧ SkOk pg (.at_ m r rest) := by
  obtain ⟨a, b, c, d, e⟩ := skip_at _ _ h
  rw [List.length_drop] at b
  refine ⟨a, ?_, by omega, List.mem_of_mem_drop (List.mem_of_getElem? d), (fun z => by unfold blank at e; rw [decide_eq_true z] at e; cases e), by omega⟩
  rw [c, List.drop_drop, show k + (m - k) = m by omega]
def meas (pg : List Row) : Sk → Nat
  | .at_ m _ _ => pg.length + 1 - m
  | _ => 0
def place (pg : List Row) : Sk → Nat
  | .at_ m _ _ => m
  | _ => pg.length
def placeL (pg : List Row) : Sk → Nat
  | .at_ m _ _ => m - 1
  | _ => pg.length
def InvS (K : PySem.W.Frag) (pg : List Row) (n : Nat) (x ps : Addr) (H : Hp) (mm : Nat) (σ : L2.St) (H' : Hp) : Prop := ∃ (sk : Sk) (scr : List (Nat × List Nat)) (us : List V) (v : V), mm = meas pg sk ∧ σ = [some (.ref x), some (.ref ps), some v] ∧ KB x H H' ∧ BL K H' x pg (place pg sk) ∧
  H' ps = some (.lst us) ∧ Paired (TupScr H') us scr ∧ us.length ≤ placeL pg sk ∧ Fnd H' v sk ∧ scrR (pg.drop n) n [] = skS sk scr pg.length ∧ SkOk pg sk
theorem ok_read_script (T : Txt w K mg) {fd : FuncData} (F : Fn_read_script K fd) (hm : mg "_read_script" = some (.ref (He.ga K "_read_script"))) (m_BookLines_following : MetX P w K mg base (L2.CX P w) 1 (He.ga K "BookLines") "following" (sp_BookLines_following K)) (m_BookLines_beyond : MetX P w K mg base CX0 1 (He.ga K "BookLines") "beyond" (sp_BookLines_beyond K)) : CalX P w K mg base (L2.CX P w) 2 "_read_script" (sp_read_script K) := by
  refine calxX (k := 1) F hm sc_read_script (b_read_script F) (fun _ _ _ _ h => sp1_len h) (fun cdv A outer s H vs Q E hr h => ?_)
  obtain ⟨x0, rfl, h⟩ := h
  refine ⟨_, (pss_cons (ps_set (i := 1) sc_read_script.nd rfl (Or.inl rfl) (pe_lst pa_nil))
    (Evl.pss_cut (ps_set (i := 2) sc_read_script.nd rfl (Or.inl rfl) (pe_mx0 m_BookLines_following (pv 0) T.k_BookLines hr (by decide) (passE rfl rfl rfl rfl)))
    (pss_cons (ps_while (passes_of rfl) (PW.pt (pw_and (pt_cmpR op_notN (pv 2) pe_non (nomark _)) (pw_and1 (pt_cmpR op_ne (pe_ix ix_tup (pv 2) pe_int (fun _ _ => rfl)) pe_str (nomark _)))))
    (pss_cons (ps_expr (pe_bm PySem.F.plainAttrs_list PySem.F.slot_list_append PySem.F.type_list_append mt_append (pv 1) (pa_cons (pv 2) pa_nil)))
    (pss_one (ps_set (i := 2) sc_read_script.nd rfl (Or.inl rfl) (pe_mx0 m_BookLines_following (pv 0) T.k_BookLines hr (by decide) (passE rfl rfl rfl rfl))))))
    (pss_cons (ps_if (pt_cmpR op_isN (pv 2) pe_non (nomark _))
    (pss_one (ps_raiseH rfl T.h_BadBook (j_BadBook _) T.n_BadBook okH hr (takes_of rfl rfl rfl rfl) (pa_cons (pe_mx0 m_BookLines_beyond (pv 0) T.k_BookLines hr (by decide) pass0) pa_nil) rfl))
    pss_nil)
    (pss_one (ps_ret (pe_tup (pa_cons (pe_callTy call_tupL (by rfl) T.f_tuple (by decide +kernel) (pa_cons (pv 1) pa_nil)) (pa_cons (pe_ix ix_tup (pv 2) pe_int (fun _ _ => rfl)) pa_nil))))))))), ?_⟩
  rw [show start ["lines", "script", "found"] [x0] = [some x0, none, none] from rfl]
  have ec0 : Str.ofString "qed" = S [113,101,100] := S_ofs (by decide +kernel)
  rw [ec0]
  obtain ⟨x, pg, n, rfl, hB, hP, hn, hE, hQ⟩ := h
  have hPl := hP.1
  try dsimp only [cxOf]
  walk_at "w"
  refine n_L (fun ps H1 hps s1 e1 => ?_)
  have hB1 := BL.same s1 hB
  have hps0 : H ps = none := hps
  have hsx : ps ≠ x := by
    obtain ⟨dx, pl, hx, _⟩ := hB; exact Ne.symm (ne_of_none hx hps)
  have hB1' := hB1
  obtain ⟨dx, pl, hx, hpl, hne⟩ := hB1'
  have fin : scrR (pg.drop n) n [] = skS (skip (pg.drop n) n) [] (n + (pg.drop n).length) := scr_skip _ _ _
  have hN : n + (pg.drop n).length = pg.length := by rw [List.length_drop]; omega
  have hsk0 : scrR (pg.drop n) n [] = skS (skip (pg.drop n) n) [] pg.length := by rw [fin, hN]
  walk_at "w"
  refine w_mid (fun σ H' => ∃ mm, InvS K pg n x ps H mm σ H') ?_ ?_
  · walk_at "w"
    refine ⟨x, dx, _, rfl, hx, rfl, ?_⟩
    walk_at "w"
    refine ⟨_, rfl, x, pg, n, rfl, hB1, hP, hn, fun m hm d H' kb hd => ?_, fun hm H' kb hB' => ?_, fun m r rest hm t H' kb hB' ht => ?_⟩
    · exact hE m (by rw [hsk0, hm]; rfl) d H' ((KB.same s1).tr kb) hd
    · walk_at "w"
      exact ⟨_, .eof, [], [], .non, rfl, rfl, (KB.same s1).tr kb, hB', kb ps _ hsx e1, .nil, Nat.zero_le _, rfl, by rw [hsk0, hm], trivial⟩
    · obtain ⟨hkm, hok⟩ := skok hn hm
      walk_at "w"
      exact ⟨_, .at_ m r rest, [], [], .ref t, rfl, rfl, (KB.same s1).tr kb, hB', kb ps _ hsx e1, .nil, Nat.zero_le _, ⟨t, rfl, ht⟩, by rw [hsk0, hm], hok⟩
  rintro σ H2 ⟨mm, hI⟩
  walk_at "w"
  refine w_whl (fun mm σ H' => InvS K pg n x ps H mm σ H') mm hI ?_
  clear hI
  rintro mm σ H2 ⟨sk, scr, us, v, rfl, rfl, kb2, hB2, hps, hus, hul, hF, hres, hok⟩
  have hB2' := hB2
  obtain ⟨dx2, pl2, hx2, hpl2, hne2⟩ := hB2'
  cases sk with
  | bad m => exact hF.elim
  | eof =>
    have hv : v = .non := hF
    subst hv
    walk_at "w"
    refine ⟨rfl, ?_⟩
    walk_at "w"
    refine w_ndec (fun z => absurd rfl z) (fun _ => ?_)
    walk_at "w"
    refine ⟨rfl, ?_⟩
    walk_at "w"
    refine w_dec (fun _ => ?_) (fun z => absurd rfl z)
    walk_at "w"
    refine w_raiseH ?_
    walk_at "w"
    refine ⟨x, dx2, _, rfl, hx2, rfl, ?_⟩
    walk_at "w"
    refine ⟨_, rfl, x, pg, _, rfl, hB2, ?_⟩
    walk_at "w"
    refine ⟨_, rfl, ⟨_, rfl, (small_log (n := pg.length + 1) (by omega))⟩, fun d hd => ?_⟩
    exact hE (pg.length + 1) (by rw [hres]; rfl) d _ (kb2.tr (KB.same (same_upd hd))) upd_same
  | at_ m r rest =>
    obtain ⟨t, rfl, ht⟩ := hF
    obtain ⟨hrest, hml, hmem, hrn, hm1'⟩ := hok
    obtain ⟨hG, hFt⟩ := hP.2 r hmem
    have hb := bd_one (ps := r.2.drop 1) hG.1 hG.2.1 (v := wQED) ⟨by decide, by decide⟩
    have hres' : scrR (pg.drop n) n [] = if r.1 = [wQED] then .done scr m rest else scrR rest m (scr ++ [(m, b0 r)]) := hres
    walk_at "w"
    refine ⟨rfl, ?_⟩
    walk_at "w"
    refine w_ndec (fun _ => ?_) (fun z => by cases z)
    walk_at "w"
    refine w_ixU (n := 1) (SqT.of ht) rfl ?_
    walk_at "w"
    refine w_ndec (fun h1 => ?_) (fun h1 => ?_)
    · have h1 : ¬ r.1 = [wQED] := fun z => h1 (hb.mpr z)
      rw [if_neg h1] at hres'
      refine w_turn ?_
      walk_at "w"
      refine n_lTy hps ?_
      walk_at "w"
      have hul' : us.length ≤ m - 1 := hul
      have hm1 : 1 ≤ m := hm1'
      refine n_app hps (by omega) (fun H3 e3 x3 => ?_)
      walk_at "w"
      have nxs : x ≠ ps := Ne.symm hsx
      have kb3 : KB x H H3 := kb2.nox hps0 x3
      have t3 : Tm H2 H3 := tm_ex hps x3
      have hx3 : H3 x = some _ := (x3 x nxs).trans hx2
      have npl : pl2 ≠ ps := fun z => by
        rw [z, hps] at hpl2
        exact ws_ne hmem hus (fun v y h => by obtain ⟨a, e, _⟩ := h; exact ⟨a, e⟩) (HO.lst.inj (Option.some.inj hpl2))
      have hB3 : BL K H3 x pg m := ⟨dx2, pl2, hx3, (x3 pl2 npl).trans hpl2, hne2⟩
      have p3 : Paired (TupScr H3) (us ++ [.ref t]) (scr ++ [(m, b0 r)]) := (pscr_tm t3 hus).snoc ⟨t, rfl, t3 _ _ ht⟩
      have hcur : scrR (pg.drop n) n [] = skS (skip (pg.drop m) m) (scr ++ [(m, b0 r)]) pg.length := by
        rw [hres', hrest, scr_skip, List.length_drop, show m + (pg.length - m) = pg.length by omega]
      refine ⟨x, dx2, _, rfl, hx3, rfl, ?_⟩
      walk_at "w"
      refine ⟨_, rfl, x, pg, m, rfl, hB3, hP, hml, fun m' hm d H' kb hd => ?_, fun hm H' kb hB' => ?_, fun m' r' rest' hm t' H' kb hB' ht' => ?_⟩
      · exact hE m' (by rw [hcur, hm]; rfl) d H' (kb3.tr kb) hd
      · walk_at "w"
        exact ⟨_, (show meas pg .eof < meas pg (.at_ m r rest) by show 0 < pg.length + 1 - m; omega), .eof, scr ++ [(m, b0 r)], us ++ [.ref t], .non, rfl, rfl, kb3.tr kb, hB', kb ps _ hsx e3, pscr_tm (tm_kb hB3 kb) p3, by rw [List.length_append]; show us.length + 1 ≤ pg.length; omega, rfl, by rw [hcur, hm], trivial⟩
      · obtain ⟨hkm, hok'⟩ := skok hml hm
        walk_at "w"
        exact ⟨_, (show meas pg (.at_ m' r' rest') < meas pg (.at_ m r rest) by show pg.length + 1 - m' < pg.length + 1 - m; have := hok'.2.1; omega), .at_ m' r' rest', scr ++ [(m, b0 r)], us ++ [.ref t], .ref t', rfl, rfl, kb3.tr kb, hB', kb ps _ hsx e3, pscr_tm (tm_kb hB3 kb) p3, by rw [List.length_append]; show us.length + 1 ≤ m' - 1; omega, ⟨t', rfl, ht'⟩, by rw [hcur, hm], hok'⟩
    · have h1 : r.1 = [wQED] := hb.mp h1
      rw [if_pos h1] at hres'
      walk_at "w"
      refine ⟨rfl, ?_⟩
      walk_at "w"
      refine w_dec (fun z => by cases z) (fun _ => ?_)
      walk_at "w"
      refine n_tup (SqL.of hps) (fun p4 H4 hp4 s4 e4 => ?_)
      walk_at "w"
      refine w_ixU (n := 0) (SqT.of (s4 _ _ ht)) rfl ?_
      walk_at "w"
      refine n_T (fun p5 H5 hp5 s5 e5 => ?_)
      exact hQ scr m rest hres' p5 H5 p4 us ((kb2.tr (KB.same s4)).tr (KB.same s5)) (BL.same s5 (BL.same s4 hB2)) e5 (s5 _ _ e4) (pscr_tm (tm_same (s4.tr s5)) hus)

end
end K36

namespace K36
open PySem PySem.Spec PyProof.Rows L2 SX
local macro_rules | `(tactic| walk_at "w1") => `(tactic| (first
  | with_reducible refine w_seq ?_ | with_reducible refine w_asgN ?_ | with_reducible refine w_c ?_
  | ((with_reducible refine' w_var ?wv ?_); (case wv => exact rfl))
  | with_reducible refine w_op ?_ | with_reducible refine w_un ?_ | with_reducible refine w_next ?_ | with_reducible refine w_brk ?_ | with_reducible refine w_cnt ?_
  | with_reducible refine w_ifS ?_ | with_reducible refine w_if ?_ | with_reducible refine w_test ?_ | with_reducible refine w_tB ?_ | with_reducible refine w_bl ?_ | with_reducible refine w_blI ?_
  | with_reducible refine w_and ?_ | with_reducible refine w_or ?_ | with_reducible refine w_not ?_ | with_reducible refine w_andV ?_ | with_reducible refine w_orV ?_ | with_reducible refine w_notV ?_
  | with_reducible refine w_nil ?_ | with_reducible refine w_cons ?_ | with_reducible refine w_cb ?_ | with_reducible refine w_call ?_ | with_reducible refine w_callS ?_ | with_reducible refine w_chain ?_
  | with_reducible refine w_tupN ?_ | with_reducible refine w_lstN ?_ | with_reducible refine w_sl ?_ | with_reducible refine w_noPart ?_ | with_reducible refine w_part ?_ | with_reducible refine w_partI ?_
  | with_reducible refine w_ret ?_ | with_reducible refine w_retN ?_ | with_reducible refine w_drop ?_ | with_reducible refine w_asg ?_ | with_reducible refine w_gSub ?_
  | ((with_reducible refine' w_aug ?wv ?_); (case wv => exact rfl)) | with_reducible refine w_ipI ?_
  | with_reducible refine w_addI ?_ | with_reducible refine w_subI ?_ | with_reducible refine w_ltI ?_ | with_reducible refine w_leI ?_ | with_reducible refine w_gtI ?_ | with_reducible refine w_geI ?_
  | with_reducible refine w_eqI ?_ | with_reducible refine w_neI ?_ | with_reducible refine w_eqT ?_ | with_reducible refine w_neT ?_ | with_reducible refine w_inS ?_ | with_reducible refine w_ninS ?_
  | with_reducible refine w_absI ?_ | with_reducible refine w_intI ?_ | with_reducible refine w_maxI ?_ | with_reducible refine w_minI ?_
  | with_reducible refine w_for ?_ | with_reducible refine w_iR1 ?_ | with_reducible refine w_iR2 ?_ | with_reducible refine w_iStr ?_ | with_reducible refine w_strI ?_ | with_reducible refine w_iList ?_ | with_reducible refine w_iTup ?_
  | with_reducible refine w_bm ?_ | with_reducible refine w_bm0 ?_ | with_reducible refine w_t ?_ | with_reducible refine w_f ?_ | with_reducible refine w_nt ?_ | with_reducible refine w_nx ?_ | with_reducible refine w_rt ?_ | with_reducible refine w_bk ?_ | with_reducible refine w_ct ?_ | with_reducible refine w_nf ?_ | with_reducible refine w_lc ?_ | with_reducible refine w_yes ?_ | with_reducible refine w_neg ?_ | with_reducible refine w_intB ?_ | with_reducible refine w_fld ?_ | with_reducible refine w_setf ?_ | with_reducible refine w_faug ?_ | with_reducible refine w_meth ?_ | with_reducible refine w_bmS ?_ | with_reducible refine w_start ?_))
local macro_rules | `(tactic| walk_at "w") => `(tactic| (repeat (first | walk_at "w1" | dsimp (config := { proj := false }) only [List.set_cons_zero, List.set_cons_succ])))
section
variable {w : World} {K : PySem.W.Frag} {mg : Str → Option Value} {base : Heap}

theorem td_eq : td_SIGNS = KEYS.map fun p => (S p.1, He.Dv.str (S p.2)) := by
  unfold td_SIGNS
  have e0 : Str.ofString "data" = S [100,97,116,97] := S_ofs (by decide +kernel)
  have e1 : Str.ofString "=" = S [61] := S_ofs (by decide +kernel)
  have e2 : Str.ofString "const" = S [99,111,110,115,116] := S_ofs (by decide +kernel)
  have e3 : Str.ofString ":" = S [58] := S_ofs (by decide +kernel)
  have e4 : Str.ofString "define" = S [100,101,102,105,110,101] := S_ofs (by decide +kernel)
  have e5 : Str.ofString ":=" = S [58,61] := S_ofs (by decide +kernel)
  have e6 : Str.ofString "begin" = S [98,101,103,105,110] := S_ofs (by decide +kernel)
  have e7 : Str.ofString "theorem" = S [116,104,101,111,114,101,109] := S_ofs (by decide +kernel)
  rw [e0, e1, e2, e3, e4, e5, e6, e7]
  rfl
theorem td_mem (w : List Nat) : S w ∈ td_SIGNS.map (·.1) ↔ sgn w ≠ none := by
  rw [td_eq, List.map_map]
  unfold sgn
  constructor
  · intro h z
    obtain ⟨p, hp, e⟩ := List.mem_map.mp h
    have e : p.1 = w := SX.S_inj e
    have := List.find?_eq_none.mp (Option.map_eq_none_iff.mp z) p hp
    exact this (decide_eq_true e)
  · intro h
    cases q : KEYS.find? (fun p => decide (p.1 = w)) with
    | none => rw [q] at h; exact absurd rfl h
    | some p => exact List.mem_map.mpr ⟨p, List.mem_of_find?_eq_some q, by show S p.1 = S w; have := List.find?_some (p := fun p : List Nat × List Nat => decide (p.1 = w)) q; rw [of_decide_eq_true this]⟩
theorem td_get {w sg : List Nat} (h : sgn w = some sg) (K : PySem.W.Frag) : ∃ p ∈ td_SIGNS, p.1 = S w ∧ p.2.v K = V.str (S sg) := by
  unfold sgn at h
  cases q : KEYS.find? (fun p => decide (p.1 = w)) with
  | none => rw [q] at h; cases h
  | some p =>
    rw [q] at h
    cases h
    refine ⟨(S p.1, .str (S p.2)), ?_, by show S p.1 = S w; have := List.find?_some (p := fun p : List Nat × List Nat => decide (p.1 = w)) q; rw [of_decide_eq_true this], rfl⟩
    rw [td_eq]; exact List.mem_map.mpr ⟨p, List.mem_of_find?_eq_some q, rfl⟩
def sp_read_item (K : PySem.W.Frag) : Sp := sp2 fun a y H Q E => ∃ (x t : Addr) (pg : List Row) (r : Row) (m : Nat), a = .ref x ∧ y = .ref t ∧ BL K H x pg m ∧ PgOk pg ∧ H t = some (.tup [.int (m : Int), .str (S (b0 r))]) ∧ r ∈ pg ∧ r.1 ≠ [] ∧ m ≤ pg.length ∧
  (itm r m = none → ∀ d H', KB x H H' → H' d = some (.xd [("line", .int (m : Int))]) → E (.ref (He.ga K "BadBook")) (some d) H') ∧
  (∀ it, itm r m = some it → it.w ≠ wTHM → ∀ v H', KB x H H' → BL K H' x pg m → TItem H' v it → Q v H') ∧
  (∀ it, itm r m = some it → it.w = wTHM → (∀ k, scrR (pg.drop m) m [] = .bad k → ∀ d H', KB x H H' → H' d = some (.xd [("line", .int (k : Int))]) → E (.ref (He.ga K "BadBook")) (some d) H') ∧
    (∀ s k rest, scrR (pg.drop m) m [] = .done s k rest → ∀ v H', KB x H H' → BL K H' x pg k → TItem H' v { it with sc := some (s, k) } → Q v H'))
theorem ok_read_item (T : Txt w K mg) {fd : FuncData} (F : Fn_read_item K fd) (hm : mg "_read_item" = some (.ref (He.ga K "_read_item"))) (c_words : CalX P w K mg base CX0 1 "_words" sp_words) (c_rest : CalX P w K mg base CX0 1 "_rest" sp_rest) (c_is_name : CalX P w K mg base CX0 1 "is_name" sp_is_name) (c_read_script : CalX P w K mg base (L2.CX P w) 2 "_read_script" (sp_read_script K)) : CalX P w K mg base (L2.CX P w) 3 "_read_item" (sp_read_item K) := by
  refine calxX (k := 2) F hm sc_read_item (b_read_item F) (fun _ _ _ _ h => sp2_len h) (fun cdv A outer s H vs Q E hr h => ?_)
  obtain ⟨x0, x1, rfl, h⟩ := h
  refine ⟨_, (pss_cons (ps_asg (pv 1) (pg_tup (by rfl) (pgs_cons (pg_name (i := 2) sc_read_item.nd rfl (Or.inl rfl)) (pgs_cons (pg_name (i := 3) sc_read_item.nd rfl (Or.inl rfl)) pgs_nil))))
    (pss_cons (ps_set (i := 4) sc_read_item.nd rfl (Or.inl rfl) (pe_cx c_words hr (by decide) rfl pass0 (pa_cons (pv 3) pa_nil)))
    (pss_cons (ps_set (i := 5) sc_read_item.nd rfl (Or.inl rfl) (pe_ix ix_list (pv 4) pe_int (fun _ _ => rfl)))
    (pss_cons (ps_if (pt_cmpR op_eq (pv 5) pe_str (nomark _))
    (pss_cons (ps_if (PW.pt (pw_or (pt_cmpR op_ne (pe_callB call_lenQ (by rfl) T.f_len PySem.boot_len (pa_cons (pv 4) pa_nil)) pe_int (nomark _)) (pw_or1 (pt_not (pt_val (pe_cx c_is_name hr (by decide) rfl pass0 (pa_cons (pe_ix ix_list (pv 4) pe_int (fun _ _ => rfl)) pa_nil)))))))
    (pss_one (ps_raiseH rfl T.h_BadBook (j_BadBook _) T.n_BadBook okH hr (takes_of rfl rfl rfl rfl) (pa_cons (pv 2) pa_nil) rfl))
    pss_nil)
    (pss_one (ps_ret (pe_tup (pa_cons (pv 5) (pa_cons (pv 2) (pa_cons (pe_ix ix_list (pv 4) pe_int (fun _ _ => rfl)) (pa_cons pe_str pa_nil))))))))
    pss_nil)
    (pss_cons (ps_if (PW.pt (pw_or (pt_cmpR (op_notInTD T.d_SIGNS) (pv 5) (pe_gv T.v_SIGNS) rfl) (pw_or1 (pt_cmpR op_ltI (pe_callB call_lenQ (by rfl) T.f_len PySem.boot_len (pa_cons (pv 4) pa_nil)) pe_int (nomark _)))))
    (pss_one (ps_raiseH rfl T.h_BadBook (j_BadBook _) T.n_BadBook okH hr (takes_of rfl rfl rfl rfl) (pa_cons (pv 2) pa_nil) rfl))
    pss_nil)
    (pss_cons (ps_if (PW.pt (pw_or (pt_not (pt_val (pe_cx c_is_name hr (by decide) rfl pass0 (pa_cons (pe_ix ix_list (pv 4) pe_int (fun _ _ => rfl)) pa_nil)))) (pw_or1 (pt_cmpR op_ne (pe_ix ix_list (pv 4) pe_int (fun _ _ => rfl)) (pe_ix (ix_TD T.d_SIGNS) (pe_gv T.v_SIGNS) (pv 5) (fun _ _ => rfl)) (nomark _)))))
    (pss_one (ps_raiseH rfl T.h_BadBook (j_BadBook _) T.n_BadBook okH hr (takes_of rfl rfl rfl rfl) (pa_cons (pv 2) pa_nil) rfl))
    pss_nil)
    (pss_cons (ps_set (i := 6) sc_read_item.nd rfl (Or.inl rfl) (pe_cx c_rest hr (by decide) rfl pass0 (pa_cons (pv 3) (pa_cons pe_int pa_nil))))
    (pss_cons (ps_if (pt_cmpR op_ne (pv 5) pe_str (nomark _))
    (pss_one (ps_ret (pe_tup (pa_cons (pv 5) (pa_cons (pv 2) (pa_cons (pe_ix ix_list (pv 4) pe_int (fun _ _ => rfl)) (pa_cons (pv 6) pa_nil)))))))
    pss_nil)
    (pss_cons (ps_asg (pe_cx c_read_script hr (by decide) rfl (passE rfl rfl rfl rfl) (pa_cons (pv 0) pa_nil)) (pg_tup (by rfl) (pgs_cons (pg_name (i := 7) sc_read_item.nd rfl (Or.inl rfl)) (pgs_cons (pg_name (i := 8) sc_read_item.nd rfl (Or.inl rfl)) pgs_nil))))
    (pss_one (ps_ret (pe_tup (pa_cons (pv 5) (pa_cons (pv 2) (pa_cons (pe_ix ix_list (pv 4) pe_int (fun _ _ => rfl)) (pa_cons (pv 6) (pa_cons (pv 7) (pa_cons (pv 8) pa_nil)))))))))))))))))), ?_⟩
  rw [show start ["lines", "found", "number", "line", "words", "word", "body", "script", "end"] [x0, x1] = [some x0, some x1, none, none, none, none, none, none, none] from rfl]
  have ec0 : Str.ofString "base" = S [98,97,115,101] := S_ofs (by decide +kernel)
  have ec1 : Str.ofString "theorem" = S [116,104,101,111,114,101,109] := S_ofs (by decide +kernel)
  have ec2 : Str.ofString "" = S [] := S_ofs (by decide +kernel)
  rw [ec0, ec1, ec2]
  obtain ⟨x, t, pg, r, m, rfl, rfl, hB, hP, ht, hmem, hne, hml, hE, hQ1, hQ2⟩ := h
  have hPl := hP.1
  obtain ⟨hG, hF⟩ := hP.2 r hmem
  obtain ⟨u0, us, hr0⟩ : ∃ u0 us, r.1 = u0 :: us := by
    cases hh : r.1 with
    | nil => exact absurd hh hne
    | cons a b => exact ⟨a, b, rfl⟩
  have hw0 : w0 r = u0 := by unfold w0; rw [hr0]; rfl
  have a0 : (Ws r.1)[0]? = some (.str (S u0)) := by rw [hr0]; rfl
  try dsimp only [cxOf]
  walk_at "w"
  refine ⟨t, _, rfl, SqT.of ht, rfl, _, _, rfl, _, _, rfl, rfl, ?_⟩
  walk_at "w"
  refine ⟨_, rfl, b0 r, rfl, (rest_len hF 0), fun p H2 s2 e2 => ?_⟩
  rw [show wds (b0 r) = r.1 from wds_bd _ _ hG.1 hG.2.1] at e2
  have kb2 : KB x H H2 := KB.same s2
  have hB2 := BL.same s2 hB
  walk_at "w"
  refine w_ixL (n := 0) (SqL.of e2) a0 ?_
  walk_at "w"
  have g0 : ∀ (h2 : 2 ≤ r.1.length), ∃ u1, (Ws r.1)[1]? = some (.str (S u1)) ∧ r.1.getD 1 [] = u1 ∧ u1.length ≤ 10000 := fun h2 => by
    have e : r.1[1]? = some r.1[1] := List.getElem?_eq_getElem h2
    exact ⟨r.1[1], ws_at e, by rw [List.getD_eq_getElem?_getD, e]; rfl, gw_len hF (List.getElem_mem h2)⟩
  refine w_dec (fun h1 => ?_) (fun h1 => ?_)
  · have h1 : w0 r = wBASE := by rw [hw0, h1]; rfl
    have hi : itm r m = if r.1.length = 2 ∧ isName (r.1.getD 1 []) = true then some ⟨wBASE, m, r.1.getD 1 [], [], none⟩ else none := by unfold itm; rw [if_pos h1]
    walk_at "w"
    refine w_lenL (SqL.of e2) ?_
    rw [ws_len]
    walk_at "w"
    refine w_ndec (fun h2 => ?_) (fun h2 => ?_)
    · walk_at "w"
      refine w_raiseH ?_
      walk_at "w"
      refine ⟨_, rfl, ⟨_, rfl, small_log (by omega)⟩, fun d hd => ?_⟩
      exact hE (by rw [hi, if_neg (fun z => h2 (by rw [z.1]; rfl))]) d _ (kb2.tr (KB.same (same_upd hd))) upd_same
    have h2' : r.1.length = 2 := by omega
    obtain ⟨u1, a1, g1, l1⟩ := g0 (by omega)
    walk_at "w"
    refine w_ixL (n := 1) (SqL.of e2) a1 ?_
    walk_at "w"
    refine ⟨_, rfl, u1, rfl, by omega, ?_⟩
    walk_at "w"
    refine w_b (fun h3 => ?_) (fun h3 => ?_)
    · walk_at "w"
      refine w_raiseH ?_
      walk_at "w"
      refine ⟨_, rfl, ⟨_, rfl, small_log (by omega)⟩, fun d hd => ?_⟩
      exact hE (by rw [hi, if_neg (fun z => by rw [g1] at z; rw [z.2] at h3; cases h3)]) d _ (kb2.tr (KB.same (same_upd hd))) upd_same
    have hn1 : isName u1 = true := by cases hh : isName u1 with | true => rfl | false => rw [hh] at h3; cases h3
    walk_at "w"
    refine w_ixL (n := 1) (SqL.of e2) a1 ?_
    walk_at "w"
    refine n_T (fun p3 H3 hp3 s3 e3 => ?_)
    refine hQ1 ⟨wBASE, m, u1, [], none⟩ (by rw [hi, if_pos ⟨h2', by rw [g1]; exact hn1⟩, g1]) (show wBASE ≠ wTHM by decide) _ H3 (kb2.tr (KB.same s3)) (BL.same s3 hB2) ⟨p3, rfl, ?_⟩
    rw [← hw0, h1] at e3; exact e3
  have h1 : ¬ w0 r = wBASE := fun z => h1 (by rw [← hw0, z]; rfl)
  have hi : itm r m = if sgn (w0 r) = none ∨ r.1.length < 4 then none else if ¬ isName (r.1.getD 1 []) = true ∨ sgn (w0 r) ≠ some (r.1.getD 2 []) then none else some ⟨w0 r, m, r.1.getD 1 [], b3 r, none⟩ := by unfold itm; rw [if_neg h1]
  walk_at "w"
  refine ⟨_, rfl, rfl, ?_⟩
  walk_at "w"
  refine w_ndec (fun h2 => ?_) (fun h2 => ?_)
  · walk_at "w"
    refine w_raiseH ?_
    walk_at "w"
    refine ⟨_, rfl, ⟨_, rfl, small_log (by omega)⟩, fun d hd => ?_⟩
    exact hE (by rw [hi, if_pos (.inl (by rw [hw0]; exact Classical.not_not.mp fun z => h2 ((td_mem u0).mpr z)))]) d _ (kb2.tr (KB.same (same_upd hd))) upd_same
  have hsg0 := (td_mem u0).mp h2
  obtain ⟨sg, hsg⟩ : ∃ sg, sgn u0 = some sg := by
    cases hh : sgn u0 with
    | none => exact absurd hh hsg0
    | some sg => exact ⟨sg, rfl⟩
  walk_at "w"
  refine w_lenL (SqL.of e2) ?_
  rw [ws_len]
  walk_at "w"
  refine w_dec (fun h3 => ?_) (fun h3 => ?_)
  · walk_at "w"
    refine w_raiseH ?_
    walk_at "w"
    refine ⟨_, rfl, ⟨_, rfl, small_log (by omega)⟩, fun d hd => ?_⟩
    exact hE (by rw [hi, if_pos (.inr (by omega))]) d _ (kb2.tr (KB.same (same_upd hd))) upd_same
  rw [if_neg (fun z => by rcases z with z | z; rw [hw0, hsg] at z; cases z; omega)] at hi
  obtain ⟨u1, a1, g1, l1⟩ := g0 (by omega)
  obtain ⟨u2, a2, g2⟩ : ∃ u2, (Ws r.1)[2]? = some (.str (S u2)) ∧ r.1.getD 2 [] = u2 := by
    have hl : 2 < r.1.length := by omega
    have e : r.1[2]? = some r.1[2] := List.getElem?_eq_getElem hl
    exact ⟨r.1[2], ws_at e, by rw [List.getD_eq_getElem?_getD, e]; rfl⟩
  walk_at "w"
  refine w_ixL (n := 1) (SqL.of e2) a1 ?_
  walk_at "w"
  refine ⟨_, rfl, u1, rfl, by omega, ?_⟩
  walk_at "w"
  refine w_b (fun h4 => ?_) (fun h4 => ?_)
  · walk_at "w"
    refine w_raiseH ?_
    walk_at "w"
    refine ⟨_, rfl, ⟨_, rfl, small_log (by omega)⟩, fun d hd => ?_⟩
    exact hE (by rw [hi, if_pos (.inl fun z => by rw [g1] at z; rw [z] at h4; cases h4)]) d _ (kb2.tr (KB.same (same_upd hd))) upd_same
  have hn1 : isName u1 = true := by cases hh : isName u1 with | true => rfl | false => rw [hh] at h4; cases h4
  walk_at "w"
  refine w_ixL (n := 2) (SqL.of e2) a2 ?_
  walk_at "w"
  obtain ⟨pr, hpr, pr1, pr2⟩ := td_get hsg K
  refine ⟨pr, hpr, rfl, by rw [pr1], ?_⟩
  rw [pr2]
  walk_at "w"
  refine w_ndec (fun h5 => ?_) (fun h5 => ?_)
  · walk_at "w"
    refine w_raiseH ?_
    walk_at "w"
    refine ⟨_, rfl, ⟨_, rfl, small_log (by omega)⟩, fun d hd => ?_⟩
    exact hE (by rw [hi, if_pos (.inr fun z => by rw [hw0, hsg, g2] at z; exact h5 (Option.some.inj z).symm)]) d _ (kb2.tr (KB.same (same_upd hd))) upd_same
  rw [if_neg (fun z => by
    rcases z with z | z
    · exact z (by rw [g1]; exact hn1)
    · exact z (by rw [hw0, hsg, g2, h5]))] at hi
  rw [g1, hw0] at hi
  walk_at "w"
  refine ⟨_, _, rfl, r, 3, hG, hF, rfl, rfl, by omega, fun H3 s3 => ?_⟩
  have kb3 := kb2.tr (KB.same s3)
  have hB3 := BL.same s3 hB2
  have e3 := s3 _ _ e2
  walk_at "w"
  refine w_ndec (fun h6 => ?_) (fun h6 => ?_)
  · walk_at "w"
    refine w_ixL (n := 1) (SqL.of e3) a1 ?_
    walk_at "w"
    refine n_T (fun p4 H4 hp4 s4 e4 => ?_)
    exact hQ1 _ hi (fun z => h6 z) _ H4 (kb3.tr (KB.same s4)) (BL.same s4 hB3) ⟨p4, rfl, e4⟩
  · obtain ⟨hS1, hS2⟩ := hQ2 _ hi h6
    walk_at "w"
    refine ⟨_, rfl, x, pg, m, rfl, hB3, hP, hml, fun k hk d H' kb hd => hS1 k hk d H' (kb3.tr kb) hd, fun s k rest hk v H' b vs kb hB' hv hb hus => ?_⟩
    walk_at "w"
    refine ⟨v, _, rfl, SqT.of hv, rfl, _, _, rfl, _, _, rfl, rfl, ?_⟩
    walk_at "w"
    have hpx : p ≠ x := by
      obtain ⟨dx, pl, hx, _⟩ := hB3
      exact ne_of e3 hx (by intro z; cases z)
    refine w_ixL (n := 1) (SqL.of (kb p _ hpx e3)) a1 ?_
    walk_at "w"
    refine n_T (fun p4 H4 hp4 s4 e4 => ?_)
    exact hS2 s k rest hk _ H4 ((kb3.tr kb).tr (KB.same s4)) (BL.same s4 hB') ⟨p4, rfl, b, vs, e4, s4 _ _ hb, pscr_tm (tm_same s4) hus⟩

end
end K36

namespace K36
open PySem PySem.Spec PyProof.Rows L2 SX
local macro_rules | `(tactic| walk_at "w1") => `(tactic| (first
  | with_reducible refine w_seq ?_ | with_reducible refine w_asgN ?_ | with_reducible refine w_c ?_
  | ((with_reducible refine' w_var ?wv ?_); (case wv => exact rfl))
  | with_reducible refine w_op ?_ | with_reducible refine w_un ?_ | with_reducible refine w_next ?_ | with_reducible refine w_brk ?_ | with_reducible refine w_cnt ?_
  | with_reducible refine w_ifS ?_ | with_reducible refine w_if ?_ | with_reducible refine w_test ?_ | with_reducible refine w_tB ?_ | with_reducible refine w_bl ?_ | with_reducible refine w_blI ?_
  | with_reducible refine w_and ?_ | with_reducible refine w_or ?_ | with_reducible refine w_not ?_ | with_reducible refine w_andV ?_ | with_reducible refine w_orV ?_ | with_reducible refine w_notV ?_
  | with_reducible refine w_nil ?_ | with_reducible refine w_cons ?_ | with_reducible refine w_cb ?_ | with_reducible refine w_call ?_ | with_reducible refine w_callS ?_ | with_reducible refine w_chain ?_
  | with_reducible refine w_tupN ?_ | with_reducible refine w_lstN ?_ | with_reducible refine w_sl ?_ | with_reducible refine w_noPart ?_ | with_reducible refine w_part ?_ | with_reducible refine w_partI ?_
  | with_reducible refine w_ret ?_ | with_reducible refine w_retN ?_ | with_reducible refine w_drop ?_ | with_reducible refine w_asg ?_ | with_reducible refine w_gSub ?_
  | ((with_reducible refine' w_aug ?wv ?_); (case wv => exact rfl)) | with_reducible refine w_ipI ?_
  | with_reducible refine w_addI ?_ | with_reducible refine w_subI ?_ | with_reducible refine w_ltI ?_ | with_reducible refine w_leI ?_ | with_reducible refine w_gtI ?_ | with_reducible refine w_geI ?_
  | with_reducible refine w_eqI ?_ | with_reducible refine w_neI ?_ | with_reducible refine w_eqT ?_ | with_reducible refine w_neT ?_ | with_reducible refine w_inS ?_ | with_reducible refine w_ninS ?_
  | with_reducible refine w_absI ?_ | with_reducible refine w_intI ?_ | with_reducible refine w_maxI ?_ | with_reducible refine w_minI ?_
  | with_reducible refine w_for ?_ | with_reducible refine w_iR1 ?_ | with_reducible refine w_iR2 ?_ | with_reducible refine w_iStr ?_ | with_reducible refine w_strI ?_ | with_reducible refine w_iList ?_ | with_reducible refine w_iTup ?_
  | with_reducible refine w_bm ?_ | with_reducible refine w_bm0 ?_ | with_reducible refine w_t ?_ | with_reducible refine w_f ?_ | with_reducible refine w_nt ?_ | with_reducible refine w_nx ?_ | with_reducible refine w_rt ?_ | with_reducible refine w_bk ?_ | with_reducible refine w_ct ?_ | with_reducible refine w_nf ?_ | with_reducible refine w_lc ?_ | with_reducible refine w_yes ?_ | with_reducible refine w_neg ?_ | with_reducible refine w_intB ?_ | with_reducible refine w_fld ?_ | with_reducible refine w_setf ?_ | with_reducible refine w_faug ?_ | with_reducible refine w_meth ?_ | with_reducible refine w_bmS ?_ | with_reducible refine w_start ?_))
local macro_rules | `(tactic| walk_at "w") => `(tactic| (repeat (first | walk_at "w1" | dsimp (config := { proj := false }) only [List.set_cons_zero, List.set_cons_succ])))
section
variable {w : World} {K : PySem.W.Frag} {mg : Str → Option Value} {base : Heap}

def InvP (K : PySem.W.Frag) (pg : List Row) (x pi : Addr) (own : List Nat) (tv : V) (H : Hp) (mm : Nat) (σ : L2.St) (H' : Hp) : Prop := ∃ (sk : Sk) (leans : List (List Nat)) (acc : List Item) (vs : List V) (al : Addr) (v : V), mm = meas pg sk ∧ σ = [some tv, some (.ref x), some (.str (S own)), some (.ref al), some (.ref pi), some v] ∧ Same H H' ∧ BL K H' x pg (place pg sk) ∧
  H' al = some (.tup (Ws leans)) ∧ H' pi = some (.lst vs) ∧ Paired (TItem H') vs acc ∧ vs.length ≤ placeL pg sk ∧ Fnd H' v sk ∧ rdp pg 0 .title = go sk (.items own leans acc) pg.length ∧ SkOk pg sk
theorem w_make {C : Addr} {sp : Sp} {dvs : List V} {E : XK} {tA : TA} {σ : L2.St} {H : Hp} {Q : VK} (h : tA σ H fun vs H1 => ∀ x dx, H1 x = none → H1 dx = none → dx ≠ x → sp (.ref x :: (vs ++ dvs)) (upd (upd H1 dx (.own x)) x (.ins C dx [])) (fun v H2 => v = .non ∧ Q (.ref x) H2) E) : tMake C sp dvs E tA σ H Q := h
theorem sm_kb {x : Addr} {H H1 H2 : Hp} (s : Same H H1) (hx : H x = none) (k : KB x H1 H2) : Same H H2 := fun b o e => k b o (ne_of_none e hx) (s b o e)
theorem go_after {own : List Nat} {sk : Sk} {N : Nat} (h : ∀ m r rest, sk = .at_ m r rest → w0 r ≠ wLEANS) : go sk (.after own) N = go sk (.items own [] []) N := by
  cases sk with
  | bad m => rfl
  | eof => rfl
  | at_ m r rest =>
    show (match step (.after own) r m with | .inr k => Res.fault k | .inl st' => rdp rest m st') = match step (.items own [] []) r m with | .inr k => Res.fault k | .inl st' => rdp rest m st'
    rw [step_after, step_items, if_neg (h m r rest rfl)]
def sp_parse_book (K : PySem.W.Frag) : Sp := sp1 fun a H Q E => ∃ pg : List Row, a = .str (S (TL.joinL [10] (pg.map textOf))) ∧ PgOk pg ∧ pg ≠ [] ∧ (TL.joinL [10] (pg.map textOf)).length ≤ 10000000 ∧
  (∀ m, rdp pg 0 .title = .fault m → ∀ d H', Same H H' → H' d = some (.xd [("line", .int (m : Int))]) → E (.ref (He.ga K "BadBook")) (some d) H') ∧
  (∀ own leans items, rdp pg 0 .title = .ok own leans items → ∀ v a1 a2 vs H', Same H H' → H' v = some (.tup [.str (S own), .ref a1, .ref a2]) → H' a1 = some (.tup (Ws leans)) → H' a2 = some (.tup vs) → Paired (TItem H') vs items → Q (.ref v) H')
theorem ok_parse_book (T : Txt w K mg) {fd : FuncData} (F : Fn_parse_book K fd) (hm : mg "parse_book" = some (.ref (He.ga K "parse_book"))) (mk_BookLines : MakX P w K mg base CX0 1 (He.ga K "BookLines") (sp_BookLines_init K)) (c_read_title : CalX P w K mg base (L2.CX P w) 2 "_read_title" (sp_read_title K)) (m_BookLines_following : MetX P w K mg base (L2.CX P w) 1 (He.ga K "BookLines") "following" (sp_BookLines_following K)) (c_words : CalX P w K mg base CX0 1 "_words" sp_words) (c_read_leans : CalX P w K mg base (L2.CX P w) 2 "_read_leans" (sp_read_leans K)) (c_read_item : CalX P w K mg base (L2.CX P w) 3 "_read_item" (sp_read_item K)) : CalX P w K mg base (L2.CX P w) 4 "parse_book" (sp_parse_book K) := by
  refine calxX (k := 3) F hm sc_parse_book (b_parse_book F) (fun _ _ _ _ h => sp1_len h) (fun cdv A outer s H vs Q E hr h => ?_)
  obtain ⟨x0, rfl, h⟩ := h
  refine ⟨_, (pss_cons (ps_set (i := 1) sc_parse_book.nd rfl (Or.inl rfl) (pe_mk mk_BookLines hr (by decide) (by rfl) T.g_BookLines pass0 (pa_cons (pv 0) pa_nil)))
    (pss_cons (ps_set (i := 2) sc_parse_book.nd rfl (Or.inl rfl) (pe_cx c_read_title hr (by decide) rfl (passE rfl rfl rfl rfl) (pa_cons (pv 1) pa_nil)))
    (pss_cons (ps_set (i := 3) sc_parse_book.nd rfl (Or.inl rfl) (pe_tup pa_nil))
    (pss_cons (ps_set (i := 4) sc_parse_book.nd rfl (Or.inl rfl) (pe_lst pa_nil))
    (Evl.pss_cut (ps_set (i := 5) sc_parse_book.nd rfl (Or.inl rfl) (pe_mx0 m_BookLines_following (pv 1) T.k_BookLines hr (by decide) (passE rfl rfl rfl rfl)))
    (Evl.pss_cut (ps_if (PW.pt (pw_and (pt_cmpR op_notN (pv 5) pe_non (nomark _)) (pw_and1 (pt_cmpR op_eq (pe_ix ix_list (pe_cx c_words hr (by decide) rfl pass0 (pa_cons (pe_ix ix_tup (pv 5) pe_int (fun _ _ => rfl)) pa_nil)) pe_int (fun _ _ => rfl)) pe_str (nomark _)))))
    (pss_cons (ps_set (i := 3) sc_parse_book.nd rfl (Or.inl rfl) (pe_cx c_read_leans hr (by decide) rfl (passE rfl rfl rfl rfl) (pa_cons (pv 5) (pa_cons (pv 2) pa_nil))))
    (pss_one (ps_set (i := 5) sc_parse_book.nd rfl (Or.inl rfl) (pe_mx0 m_BookLines_following (pv 1) T.k_BookLines hr (by decide) (passE rfl rfl rfl rfl)))))
    pss_nil)
    (pss_cons (ps_while (passes_of rfl) (pt_cmpR op_notN (pv 5) pe_non (nomark _))
    (pss_cons (ps_expr (pe_bm PySem.F.plainAttrs_list PySem.F.slot_list_append PySem.F.type_list_append mt_append (pv 4) (pa_cons (pe_cx c_read_item hr (by decide) rfl (passE rfl rfl rfl rfl) (pa_cons (pv 1) (pa_cons (pv 5) pa_nil))) pa_nil)))
    (pss_one (ps_set (i := 5) sc_parse_book.nd rfl (Or.inl rfl) (pe_mx0 m_BookLines_following (pv 1) T.k_BookLines hr (by decide) (passE rfl rfl rfl rfl))))))
    (pss_one (ps_ret (pe_tup (pa_cons (pv 2) (pa_cons (pv 3) (pa_cons (pe_callTy call_tupL (by rfl) T.f_tuple (by decide +kernel) (pa_cons (pv 4) pa_nil)) pa_nil))))))))))))), ?_⟩
  rw [show start ["text", "lines", "name", "leans", "items", "found"] [x0] = [some x0, none, none, none, none, none] from rfl]
  have ec0 : Str.ofString "leans" = S [108,101,97,110,115] := S_ofs (by decide +kernel)
  rw [ec0]
  obtain ⟨pg, rfl, hP, hne0, hlen, hE, hQ⟩ := h
  have hPl := hP.1
  generalize hT : V.str (S (TL.joinL [10] (pg.map textOf))) = tv
  try dsimp only [cxOf]
  walk_at "w"
  refine w_make ?_
  walk_at "w"
  rw [← hT]
  intro x dx hx0 hdx0 hdx
  refine ⟨_, _, rfl, x, dx, pg.map textOf, rfl, upd_same, rfl, fun z => hne0 (List.map_eq_nil_iff.mp z), fun l hl => ?_, hlen, fun H1 pl kb1 hx1 hpl1 hplx => ⟨rfl, ?_⟩⟩
  · obtain ⟨r, hr, rfl⟩ := List.mem_map.mp hl
    exact text_no10 (hP.2 r hr).1
  rw [hT]
  have s1 : Same H H1 := sm_kb (fun b o e => by rw [upd_ne (ne_of_none e hx0), upd_ne (ne_of_none e hdx0)]; exact e) hx0 kb1
  have hB1 : BL K H1 x pg 0 := ⟨dx, pl, hx1, hpl1, hplx⟩
  walk_at "w"
  have hr0 : rdp pg 0 .title = go (skip pg 0) .title pg.length := by rw [rdp_skip, Nat.zero_add]
  refine ⟨_, rfl, x, pg, rfl, hB1, hP, fun m hm d H' kb hd => ?_, fun m0 r0 rest0 own hsk hst H2 kb2 hB2 => ?_⟩
  · exact hE m (by rw [hr0, hm]) d H' (sm_kb s1 hx0 kb) hd
  have s2 : Same H H2 := sm_kb s1 hx0 kb2
  obtain ⟨hm0, hok0⟩ := skok (Nat.zero_le _) (show skip (pg.drop 0) 0 = .at_ m0 r0 rest0 from hsk)
  obtain ⟨hrest0, hml0, _⟩ := hok0
  have hr1 : rdp pg 0 .title = go (skip (pg.drop m0) m0) (.after own) pg.length := by
    rw [hr0, hsk]
    show (match step .title r0 m0 with | .inr k => Res.fault k | .inl st' => rdp rest0 m0 st') = _
    rw [hst, hrest0]
    show rdp (pg.drop m0) m0 (.after own) = _
    rw [rdp_skip, List.length_drop, show m0 + (pg.length - m0) = pg.length by omega]
  walk_at "w"
  refine n_T (fun al H3 hal s3 e3 => ?_)
  walk_at "w"
  refine n_L (fun pi H4 hpi s4 e4 => ?_)
  have s34 := s3.tr s4
  have hB4 := BL.same s34 hB2
  have al4 : H4 al = some (.tup (Ws [])) := s4 _ _ e3
  have hpi0 : H pi = none := (s2.tr s3).none hpi
  have hxpi : x ≠ pi := by
    obtain ⟨dx, pl, hx, _⟩ := BL.same s3 hB2; exact ne_of_none hx hpi
  have S4 : Same H H4 := s2.tr s34
  walk_at "w"
  have hB4' := hB4
  obtain ⟨dx4, pl4, hx4, hpl4, hplx4⟩ := hB4'
  refine w_mid (fun σ H' => ∃ (sk : Sk) (v : V), σ = [some tv, some (.ref x), some (.str (S own)), some (.ref al), some (.ref pi), some v] ∧ Same H H' ∧ BL K H' x pg (place pg sk) ∧ H' al = some (.tup (Ws [])) ∧ H' pi = some (.lst []) ∧ Fnd H' v sk ∧ rdp pg 0 .title = go sk (.after own) pg.length ∧ SkOk pg sk) ?_ ?_
  · walk_at "w"
    refine ⟨x, dx4, _, rfl, hx4, rfl, ?_⟩
    walk_at "w"
    have nal : ∀ {H5 : Hp}, KB x H4 H5 → H5 al = some (.tup (Ws [])) := fun kb => kb al _ (ne_of al4 hx4 (by intro z; cases z)) al4
    refine ⟨_, rfl, x, pg, m0, rfl, hB4, hP, hml0, fun m hm d H' kb hd => ?_, fun hm H' kb hB' => ?_, fun m r rest hm t H' kb hB' ht => ?_⟩
    · exact hE m (by rw [hr1, hm]; rfl) d H' (sm_kb S4 hx0 kb) hd
    · walk_at "w"
      exact ⟨.eof, .non, rfl, sm_kb S4 hx0 kb, hB', nal kb, kb pi _ (Ne.symm hxpi) e4, rfl, by rw [hr1, hm], trivial⟩
    · obtain ⟨_, hok⟩ := skok hml0 hm
      walk_at "w"
      exact ⟨.at_ m r rest, .ref t, rfl, sm_kb S4 hx0 kb, hB', nal kb, kb pi _ (Ne.symm hxpi) e4, ⟨t, rfl, ht⟩, by rw [hr1, hm], hok⟩
  clear hB4 al4 hx4 hpl4 hplx4 s34 s3 s4 e3 e4 hpi hal s2 hB2 hB1 hx1 hpl1 hplx s1 kb1 kb2 hr1 hr0
  rintro σ H5 ⟨sk, v, rfl, S5, hB5, al5, pi5, hF5, hr5, hok5⟩
  walk_at "w"
  refine w_mid (fun σ H' => ∃ mm, InvP K pg x pi own tv H mm σ H') ?_ ?_
  · walk_at "w"
    have plain : (∀ m r rest, sk = .at_ m r rest → w0 r ≠ wLEANS) → ∀ {H6 : Hp}, Same H5 H6 → ∃ mm, InvP K pg x pi own tv H mm [some tv, some (.ref x), some (.str (S own)), some (.ref al), some (.ref pi), some v] H6 := fun z H6 s6 => ⟨_, sk, [], [], [], al, v, rfl, rfl, S5.tr s6, BL.same s6 hB5, s6 _ _ al5, s6 _ _ pi5, .nil, Nat.zero_le _, by
        cases sk with
        | bad m => exact hF5
        | eof => exact hF5
        | at_ m r rest => obtain ⟨t, e, h⟩ := hF5; exact ⟨t, e, s6 _ _ h⟩, by rw [hr5, go_after z], hok5⟩
    cases sk with
    | bad m => exact hF5.elim
    | eof =>
      have hv : v = .non := hF5
      subst hv
      refine ⟨rfl, ?_⟩
      walk_at "w"
      refine w_ndec (fun z => absurd rfl z) (fun _ => ?_)
      walk_at "w"
      exact plain (fun m r rest z => by cases z) (Same.refl _)
    | at_ m r rest =>
      obtain ⟨t, rfl, ht⟩ := hF5
      obtain ⟨hrest, hml, hmem, hrn, hm1⟩ := hok5
      obtain ⟨hG, hF⟩ := hP.2 r hmem
      obtain ⟨u0, us, hr0⟩ : ∃ u0 us, r.1 = u0 :: us := by
        cases hh : r.1 with
        | nil => exact absurd hh hrn
        | cons a b => exact ⟨a, b, rfl⟩
      have hw0 : w0 r = u0 := by unfold w0; rw [hr0]; rfl
      have a0 : (Ws r.1)[0]? = some (.str (S u0)) := by rw [hr0]; rfl
      refine ⟨rfl, ?_⟩
      walk_at "w"
      refine w_ndec (fun _ => ?_) (fun z => by cases z)
      walk_at "w"
      refine w_ixU (n := 1) (SqT.of ht) rfl ?_
      walk_at "w"
      refine ⟨_, rfl, b0 r, rfl, (rest_len hF 0), fun p H6 s6 e6 => ?_⟩
      rw [show wds (b0 r) = r.1 from wds_bd _ _ hG.1 hG.2.1] at e6
      walk_at "w"
      refine w_ixL (n := 0) (SqL.of e6) a0 ?_
      walk_at "w"
      refine w_dec (fun h1 => ?_) (fun h1 => ?_)
      rotate_left
      · walk_at "w"
        exact plain (fun m' r' rest' z => by cases z; rw [hw0]; exact fun y => h1 (by rw [y]; rfl)) s6
      have hwl : w0 r = wLEANS := by rw [hw0, h1]; rfl
      have hr6 : rdp pg 0 .title = match (if lfit r.1 own = true then (.inl (.items own (r.1.drop 1) []) : St0 ⊕ Nat) else .inr m) with | .inr k => Res.fault k | .inl st' => rdp rest m st' := by
        rw [hr5]
        show (match step (.after own) r m with | .inr k => Res.fault k | .inl st' => rdp rest m st') = _
        rw [step_after, if_pos hwl]
      walk_at "w"
      refine ⟨_, _, rfl, t, r, m, own, rfl, s6 _ _ ht, rfl, hG, hF, by omega, hrn, fun hl d H' s7 hd => ?_, fun hl a7 H7 s7 e7 => ?_⟩
      · exact hE m (by rw [hr6, hl]; rfl) d H' ((S5.tr s6).tr s7) hd
      rw [if_pos hl] at hr6
      have hr7 : rdp pg 0 .title = go (skip (pg.drop m) m) (.items own (r.1.drop 1) []) pg.length := by
        rw [hr6, hrest]
        show rdp (pg.drop m) m (.items own (r.1.drop 1) []) = _
        rw [rdp_skip, List.length_drop, show m + (pg.length - m) = pg.length by omega]
      have s67 := s6.tr s7
      have S7 := S5.tr s67
      have hB7 := BL.same s67 hB5
      walk_at "w"
      have hB7' := hB7
      obtain ⟨dx7, pl7, hx7, hpl7, hplx7⟩ := hB7'
      refine ⟨x, dx7, _, rfl, hx7, rfl, ?_⟩
      walk_at "w"
      have nal : ∀ {H8 : Hp}, KB x H7 H8 → H8 a7 = some (.tup (Ws (r.1.drop 1))) := fun kb => kb a7 _ (ne_of e7 hx7 (by intro z; cases z)) e7
      have pi7 := s67 _ _ pi5
      refine ⟨_, rfl, x, pg, m, rfl, hB7, hP, hml, fun m' hm d H' kb hd => ?_, fun hm H' kb hB' => ?_, fun m' r' rest' hm t' H' kb hB' ht' => ?_⟩
      · exact hE m' (by rw [hr7, hm]; rfl) d H' (sm_kb S7 hx0 kb) hd
      · walk_at "w"
        exact ⟨_, .eof, r.1.drop 1, [], [], a7, .non, rfl, rfl, sm_kb S7 hx0 kb, hB', nal kb, kb pi _ (Ne.symm hxpi) pi7, .nil, Nat.zero_le _, rfl, by rw [hr7, hm], trivial⟩
      · obtain ⟨_, hok⟩ := skok hml hm
        walk_at "w"
        exact ⟨_, .at_ m' r' rest', r.1.drop 1, [], [], a7, .ref t', rfl, rfl, sm_kb S7 hx0 kb, hB', nal kb, kb pi _ (Ne.symm hxpi) pi7, .nil, Nat.zero_le _, ⟨t', rfl, ht'⟩, by rw [hr7, hm], hok⟩
  clear hB5 al5 pi5 hF5 hr5 hok5 S5
  rintro σ H6 ⟨mm, hI⟩
  walk_at "w"
  refine w_whl (fun mm σ H' => InvP K pg x pi own tv H mm σ H') mm hI ?_
  clear hI
  rintro mm σ H6 ⟨sk, leans, acc, vs, al, v, rfl, rfl, S6, hB6, al6, pi6, pv6, vl6, hF6, hr6, hok6⟩
  walk_at "w"
  cases sk with
  | bad m => exact hF6.elim
  | eof =>
    have hv : v = .non := hF6
    subst hv
    refine ⟨rfl, ?_⟩
    walk_at "w"
    refine w_ndec (fun z => absurd rfl z) (fun _ => ?_)
    walk_at "w"
    refine n_tup (SqL.of pi6) (fun p7 H7 hp7 s7 e7 => ?_)
    walk_at "w"
    refine n_T (fun p8 H8 hp8 s8 e8 => ?_)
    exact hQ own leans acc (by rw [hr6]; rfl) p8 al p7 vs H8 ((S6.tr s7).tr s8) e8 (s8 _ _ (s7 _ _ al6)) (s8 _ _ e7) (pitem_tm (tm_same (s7.tr s8)) pv6)
  | at_ m r rest =>
    obtain ⟨t, rfl, ht⟩ := hF6
    obtain ⟨hrest, hml, hmem, hrn, hm1⟩ := hok6
    have vl6 : vs.length ≤ m - 1 := vl6
    have hr7 : rdp pg 0 .title = match St0.item own leans acc r m with | .inr k => Res.fault k | .inl st' => rdp (pg.drop m) m st' := by rw [hr6, ← hrest]; rfl
    rw [item_eq] at hr7
    refine ⟨rfl, ?_⟩
    walk_at "w"
    refine w_ndec (fun _ => ?_) (fun z => by cases z)
    refine w_turn ?_
    walk_at "w"
    refine n_lTy pi6 ?_
    walk_at "w"
    refine ⟨_, _, rfl, x, t, pg, r, m, rfl, rfl, hB6, hP, ht, hmem, hrn, hml, fun hn d H' kb hd => ?_, fun it hit hw v8 H8 kb hB8 hv8 => ?_, fun it hit hw => ⟨fun k hk d H' kb hd => ?_, fun s k rest2 hk v8 H8 kb hB8 hv8 => ?_⟩⟩
    · exact hE m (by rw [hr7, hn]) d H' (sm_kb S6 hx0 kb) hd
    · have hkl := hml
      have hcur : rdp pg 0 .title = go (skip (pg.drop m) m) (.items own leans (acc ++ [it])) pg.length := by
        rw [hr7, hit]
        dsimp only
        rw [if_neg hw]
        show rdp (pg.drop m) m (.items own leans (acc ++ [it])) = _
        rw [rdp_skip, List.length_drop, show m + (pg.length - m) = pg.length by omega]
      have S8 := sm_kb S6 hx0 kb
      have pi8 : H8 pi = some (.lst vs) := kb pi _ (Ne.symm hxpi) pi6
      have pv8 := pitem_tm (tm_kb hB6 kb) pv6
      have al8 := tm_kb hB6 kb _ _ al6
      have hB8' := hB8
      obtain ⟨dx8, pl8, hx8, hpl8, hplx8⟩ := hB8'
      walk_at "w"
      refine n_app pi8 (by omega) (fun H9 e9 x9 => ?_)
      walk_at "w"
      have t9 : Tm H8 H9 := tm_ex pi8 x9
      have npl : pl8 ≠ pi := fun z => by
        rw [z, pi8] at hpl8
        exact ws_ne hmem pv8 (fun v y h => by obtain ⟨a, e, _⟩ := h; exact ⟨a, e⟩) (HO.lst.inj (Option.some.inj hpl8))
      have hx9 : H9 x = some _ := (x9 x hxpi).trans hx8
      have hB9 : BL K H9 x pg m := ⟨dx8, pl8, hx9, (x9 pl8 npl).trans hpl8, hplx8⟩
      have S9 : Same H H9 := sm_ex S8 hpi0 x9
      have pv9 := (pitem_tm t9 pv8).snoc (item_tm t9 hv8)
      have al9 := t9 _ _ al8
      refine ⟨x, dx8, _, rfl, hx9, rfl, ?_⟩
      walk_at "w"
      refine ⟨_, rfl, x, pg, m, rfl, hB9, hP, hkl, fun m' hm d H' kb hd => ?_, fun hm H' kb hB' => ?_, fun m' r' rest' hm t' H' kb hB' ht' => ?_⟩
      · exact hE m' (by rw [hcur, hm]; rfl) d H' (sm_kb S9 hx0 kb) hd
      · walk_at "w"
        exact ⟨_, (show meas pg .eof < meas pg (.at_ m r rest) by show 0 < pg.length + 1 - m; omega), .eof, leans, _, _, al, .non, rfl, rfl, sm_kb S9 hx0 kb, hB', tm_kb hB9 kb _ _ al9, kb pi _ (Ne.symm hxpi) e9, pitem_tm (tm_kb hB9 kb) pv9, by rw [List.length_append]; show vs.length + 1 ≤ pg.length; omega, rfl, by rw [hcur, hm], trivial⟩
      · obtain ⟨hkm, hok'⟩ := skok hkl hm
        walk_at "w"
        exact ⟨_, (show meas pg (.at_ m' r' rest') < meas pg (.at_ m r rest) by show pg.length + 1 - m' < pg.length + 1 - m; have := hok'.2.1; omega), .at_ m' r' rest', leans, _, _, al, .ref t', rfl, rfl, sm_kb S9 hx0 kb, hB', tm_kb hB9 kb _ _ al9, kb pi _ (Ne.symm hxpi) e9, pitem_tm (tm_kb hB9 kb) pv9, by rw [List.length_append]; show vs.length + 1 ≤ m' - 1; omega, ⟨t', rfl, ht'⟩, by rw [hcur, hm], hok'⟩
    · refine hE k ?_ d H' (sm_kb S6 hx0 kb) hd
      rw [hr7, hit]
      dsimp only
      rw [if_pos hw]
      show rdp (pg.drop m) m (.script own leans acc it []) = _
      rw [rdp_script, hk]
    · obtain ⟨hk1, hk2, hk3⟩ := scr_done _ _ _ hk
      rw [List.length_drop] at hk2
      have hkl : k ≤ pg.length := by omega
      have hcur : rdp pg 0 .title = go (skip (pg.drop k) k) (.items own leans (acc ++ [{ it with sc := some (s, k) }])) pg.length := by
        rw [hr7, hit]
        dsimp only
        rw [if_pos hw]
        show rdp (pg.drop m) m (.script own leans acc it []) = _
        rw [rdp_script, hk]
        show rdp rest2 k (.items own leans (acc ++ [{ it with sc := some (s, k) }])) = _
        rw [hk3, List.drop_drop, show m + (k - m) = k by omega, rdp_skip, List.length_drop, show k + (pg.length - k) = pg.length by omega]
      have S8 := sm_kb S6 hx0 kb
      have pi8 : H8 pi = some (.lst vs) := kb pi _ (Ne.symm hxpi) pi6
      have pv8 := pitem_tm (tm_kb hB6 kb) pv6
      have al8 := tm_kb hB6 kb _ _ al6
      have hB8' := hB8
      obtain ⟨dx8, pl8, hx8, hpl8, hplx8⟩ := hB8'
      walk_at "w"
      refine n_app pi8 (by omega) (fun H9 e9 x9 => ?_)
      walk_at "w"
      have t9 : Tm H8 H9 := tm_ex pi8 x9
      have npl : pl8 ≠ pi := fun z => by
        rw [z, pi8] at hpl8
        exact ws_ne hmem pv8 (fun v y h => by obtain ⟨a, e, _⟩ := h; exact ⟨a, e⟩) (HO.lst.inj (Option.some.inj hpl8))
      have hx9 : H9 x = some _ := (x9 x hxpi).trans hx8
      have hB9 : BL K H9 x pg k := ⟨dx8, pl8, hx9, (x9 pl8 npl).trans hpl8, hplx8⟩
      have S9 : Same H H9 := sm_ex S8 hpi0 x9
      have pv9 := (pitem_tm t9 pv8).snoc (item_tm t9 hv8)
      have al9 := t9 _ _ al8
      refine ⟨x, dx8, _, rfl, hx9, rfl, ?_⟩
      walk_at "w"
      refine ⟨_, rfl, x, pg, k, rfl, hB9, hP, hkl, fun m' hm d H' kb hd => ?_, fun hm H' kb hB' => ?_, fun m' r' rest' hm t' H' kb hB' ht' => ?_⟩
      · exact hE m' (by rw [hcur, hm]; rfl) d H' (sm_kb S9 hx0 kb) hd
      · walk_at "w"
        exact ⟨_, (show meas pg .eof < meas pg (.at_ m r rest) by show 0 < pg.length + 1 - m; omega), .eof, leans, _, _, al, .non, rfl, rfl, sm_kb S9 hx0 kb, hB', tm_kb hB9 kb _ _ al9, kb pi _ (Ne.symm hxpi) e9, pitem_tm (tm_kb hB9 kb) pv9, by rw [List.length_append]; show vs.length + 1 ≤ pg.length; omega, rfl, by rw [hcur, hm], trivial⟩
      · obtain ⟨hkm, hok'⟩ := skok hkl hm
        walk_at "w"
        exact ⟨_, (show meas pg (.at_ m' r' rest') < meas pg (.at_ m r rest) by show pg.length + 1 - m' < pg.length + 1 - m; have := hok'.2.1; omega), .at_ m' r' rest', leans, _, _, al, .ref t', rfl, rfl, sm_kb S9 hx0 kb, hB', tm_kb hB9 kb _ _ al9, kb pi _ (Ne.symm hxpi) e9, pitem_tm (tm_kb hB9 kb) pv9, by rw [List.length_append]; show vs.length + 1 ≤ m' - 1; omega, ⟨t', rfl, ht'⟩, by rw [hcur, hm], hok'⟩

end
end K36

namespace K36
open PySem PySem.Spec PyProof.Rows L2 SX
local macro_rules | `(tactic| walk_at "w1") => `(tactic| (first
  | with_reducible refine w_seq ?_ | with_reducible refine w_asgN ?_ | with_reducible refine w_c ?_
  | ((with_reducible refine' w_var ?wv ?_); (case wv => exact rfl))
  | with_reducible refine w_op ?_ | with_reducible refine w_un ?_ | with_reducible refine w_next ?_ | with_reducible refine w_brk ?_ | with_reducible refine w_cnt ?_
  | with_reducible refine w_ifS ?_ | with_reducible refine w_if ?_ | with_reducible refine w_test ?_ | with_reducible refine w_tB ?_ | with_reducible refine w_bl ?_ | with_reducible refine w_blI ?_
  | with_reducible refine w_and ?_ | with_reducible refine w_or ?_ | with_reducible refine w_not ?_ | with_reducible refine w_andV ?_ | with_reducible refine w_orV ?_ | with_reducible refine w_notV ?_
  | with_reducible refine w_nil ?_ | with_reducible refine w_cons ?_ | with_reducible refine w_cb ?_ | with_reducible refine w_call ?_ | with_reducible refine w_callS ?_ | with_reducible refine w_chain ?_
  | with_reducible refine w_tupN ?_ | with_reducible refine w_lstN ?_ | with_reducible refine w_sl ?_ | with_reducible refine w_noPart ?_ | with_reducible refine w_part ?_ | with_reducible refine w_partI ?_
  | with_reducible refine w_ret ?_ | with_reducible refine w_retN ?_ | with_reducible refine w_drop ?_ | with_reducible refine w_asg ?_ | with_reducible refine w_gSub ?_
  | ((with_reducible refine' w_aug ?wv ?_); (case wv => exact rfl)) | with_reducible refine w_ipI ?_
  | with_reducible refine w_addI ?_ | with_reducible refine w_subI ?_ | with_reducible refine w_ltI ?_ | with_reducible refine w_leI ?_ | with_reducible refine w_gtI ?_ | with_reducible refine w_geI ?_
  | with_reducible refine w_eqI ?_ | with_reducible refine w_neI ?_ | with_reducible refine w_eqT ?_ | with_reducible refine w_neT ?_ | with_reducible refine w_inS ?_ | with_reducible refine w_ninS ?_
  | with_reducible refine w_absI ?_ | with_reducible refine w_intI ?_ | with_reducible refine w_maxI ?_ | with_reducible refine w_minI ?_
  | with_reducible refine w_for ?_ | with_reducible refine w_iR1 ?_ | with_reducible refine w_iR2 ?_ | with_reducible refine w_iStr ?_ | with_reducible refine w_strI ?_ | with_reducible refine w_iList ?_ | with_reducible refine w_iTup ?_
  | with_reducible refine w_bm ?_ | with_reducible refine w_bm0 ?_ | with_reducible refine w_t ?_ | with_reducible refine w_f ?_ | with_reducible refine w_nt ?_ | with_reducible refine w_nx ?_ | with_reducible refine w_rt ?_ | with_reducible refine w_bk ?_ | with_reducible refine w_ct ?_ | with_reducible refine w_nf ?_ | with_reducible refine w_lc ?_ | with_reducible refine w_yes ?_ | with_reducible refine w_neg ?_ | with_reducible refine w_intB ?_ | with_reducible refine w_fld ?_ | with_reducible refine w_setf ?_ | with_reducible refine w_faug ?_ | with_reducible refine w_meth ?_ | with_reducible refine w_bmS ?_ | with_reducible refine w_start ?_))
local macro_rules | `(tactic| walk_at "w") => `(tactic| (repeat (first | walk_at "w1" | dsimp (config := { proj := false }) only [List.set_cons_zero, List.set_cons_succ])))
section
variable {w : World} {K : PySem.W.Frag} {mg : Str → Option Value} {base : Heap}

/-- the same data, at most k deep -/
def Sm (H : Hp) : Nat → V → V → Prop
  | 0, _, _ => False
  | k + 1, x, y => (∃ l, x = .str (S l) ∧ y = .str (S l)) ∨ (∃ n : Int, x = .int n ∧ y = .int n) ∨
    ∃ a b xs ys, x = .ref a ∧ y = .ref b ∧ H a = some (.tup xs) ∧ H b = some (.tup ys) ∧ xs.length = ys.length ∧ xs.length ≤ 100000 ∧ ∀ (i : Nat) v u, xs[i]? = some v → ys[i]? = some u → Sm H k v u
def sp_law_same (k : Nat) : Sp := sp2 fun x y H Q _ => Sm H k x y ∧ Q (.bl true) H
theorem k_st {K : PySem.W.Frag} : PySem.W.kitOne K (.type "str") (.type "tuple") = some false := kit_ty (by decide +kernel)
theorem k_it {K : PySem.W.Frag} : PySem.W.kitOne K (.type "int") (.type "tuple") = some false := kit_ty (by decide +kernel)
theorem k_is' {K : PySem.W.Frag} : PySem.W.kitOne K (.type "int") (.type "str") = some false := kit_ty (by decide +kernel)
theorem same_step (T : Txt w K mg) {fd : FuncData} (F : Fn_law_same K fd) (hm : mg "_law_same" = some (.ref (He.ga K "_law_same"))) (k : Nat) (c_law_same : CalX P w K mg base CX0 (k + 1) "_law_same" (sp_law_same k)) : CalX P w K mg base CX0 (k + 2) "_law_same" (sp_law_same (k + 1)) := by
  refine calx0 (k := k + 1) F hm sc_law_same (b_law_same F) (fun _ _ _ _ h => sp2_len h) (fun cdv A outer s H vs Q E hr h => ?_)
  obtain ⟨x0, x1, rfl, h⟩ := h
  refine ⟨_, (pss_cons (ps_if (pt_val (pe_callB call_isi (by rfl) T.f_isinstance (by decide +kernel) (pa_cons (pv 1) (pa_cons (pe_bltn (v := .ty "tuple") (by rfl) T.f_tuple (by decide +kernel) rfl) pa_nil))))
    (pss_cons (ps_if (PW.pt (pw_or (pt_not (pt_val (pe_callB call_isi (by rfl) T.f_isinstance (by decide +kernel) (pa_cons (pv 0) (pa_cons (pe_bltn (v := .ty "tuple") (by rfl) T.f_tuple (by decide +kernel) rfl) pa_nil))))) (pw_or1 (pt_cmpR op_ne (pe_callB call_lenQ (by rfl) T.f_len PySem.boot_len (pa_cons (pv 0) pa_nil)) (pe_callB call_lenQ (by rfl) T.f_len PySem.boot_len (pa_cons (pv 1) pa_nil)) (nomark _)))))
    (pss_one (ps_ret pe_bl))
    pss_nil)
    (pss_cons (ps_for PassesOwn.never rfl (pi_range1 (by rfl) T.f_range (pa_cons (pe_callB call_lenQ (by rfl) T.f_len PySem.boot_len (pa_cons (pv 1) pa_nil)) pa_nil)) (pg_name (i := 2) sc_law_same.nd rfl (Or.inl rfl))
    (pss_one (ps_if (pt_not (pt_val (pe_cx c_law_same hr (Nat.le_refl _) rfl pass0 (pa_cons (pe_ix ix_tup (pv 0) (pv 2) (fun _ _ => rfl)) (pa_cons (pe_ix ix_tup (pv 1) (pv 2) (fun _ _ => rfl)) pa_nil)))))
    (pss_one (ps_ret pe_bl))
    pss_nil)))
    (pss_one (ps_ret pe_bl))))
    pss_nil)
    (pss_cons (ps_if (pt_val (pe_callB call_isi (by rfl) T.f_isinstance (by decide +kernel) (pa_cons (pv 1) (pa_cons (pe_bltn (v := .ty "str") (by rfl) T.f_str (by decide +kernel) rfl) pa_nil))))
    (pss_one (ps_ret (pe_and (pe_callB call_isi (by rfl) T.f_isinstance (by decide +kernel) (pa_cons (pv 0) (pa_cons (pe_bltn (v := .ty "str") (by rfl) T.f_str (by decide +kernel) rfl) pa_nil))) (pe_one (pe_cmpR op_eq (pv 0) (pv 1) (nomark _))))))
    pss_nil)
    (pss_one (ps_ret (pe_and (pe_callB call_isi (by rfl) T.f_isinstance (by decide +kernel) (pa_cons (pv 0) (pa_cons (pe_bltn (v := .ty "int") (by rfl) T.f_int (by decide +kernel) rfl) pa_nil))) (pe_and (pe_not (pe_callB call_isi (by rfl) T.f_isinstance (by decide +kernel) (pa_cons (pv 0) (pa_cons (pe_bltn (v := .ty "bool") (by rfl) T.f_bool (by decide +kernel) rfl) pa_nil)))) (pe_one (pe_cmpR op_eq (pv 0) (pv 1) (nomark _))))))))), ?_⟩
  rw [show start ["told", "due", "k"] [x0, x1] = [some x0, some x1, none] from rfl]
  obtain ⟨hS, hQ⟩ := h
  try dsimp only [cxOf]
  walk_at "w"
  rcases hS with ⟨l, rfl, rfl⟩ | ⟨n, rfl, rfl⟩ | ⟨a, b, xs, ys, rfl, rfl, ha, hb, hl, hz, hS⟩
  · refine w_isi (.base (.str _)) k_st ?_
    walk_at "w"
    refine w_isi (.base (.str _)) kit_ss ?_
    walk_at "w"
    refine w_isi (.base (.str _)) kit_ss ?_
    walk_at "w"
    rw [decide_eq_true rfl]; exact hQ
  · refine w_isi (.base (.int _)) k_it ?_
    walk_at "w"
    refine w_isi (.base (.int _)) k_is' ?_
    walk_at "w"
    refine w_isi (.base (.int _)) kit_ii ?_
    walk_at "w"
    refine w_isi (.base (.int _)) kit_ib ?_
    walk_at "w"
    rw [decide_eq_true rfl]; exact hQ
  · refine w_isi (.base (.tup hb)) kit_tt ?_
    walk_at "w"
    refine w_isi (.base (.tup ha)) kit_tt ?_
    walk_at "w"
    refine w_lenU (SqT.of ha) ?_
    walk_at "w"
    refine w_lenU (SqT.of hb) ?_
    walk_at "w"
    refine w_ndec (fun z => absurd (by rw [hl]) z) (fun _ => ?_)
    walk_at "w"
    refine w_lenU (SqT.of hb) ?_
    walk_at "w"
    refine w_rg1 (by omega) (by omega) ?_
    refine for_range (fun i σ H' => H' = H ∧ ∃ v, σ = [some (.ref a), some (.ref b), v]) ⟨rfl, _, rfl⟩ ?_ ?_
    · rintro i σ H' hi ⟨rfl, v, rfl⟩
      have hi : i < ys.length := hi
      have e1 := List.getElem?_eq_getElem hi
      have e2 : xs[i]? = some xs[i] := List.getElem?_eq_getElem (by omega)
      dsimp only [gName]
      walk_at "w"
      rw [show (0 : Int) + (i : Int) = (i : Int) by omega]
      refine w_ixU (SqT.of ha) e2 ?_
      walk_at "w"
      refine w_ixU (SqT.of hb) e1 ?_
      walk_at "w"
      refine ⟨_, _, rfl, hS i _ _ e2 e1, ?_⟩
      walk_at "w"
      exact ⟨rfl, _, rfl⟩
    · rintro σ H' ⟨rfl, v, rfl⟩
      walk_at "w"
      exact hQ
theorem same_all (T : Txt w K mg) {fd : FuncData} (F : Fn_law_same K fd) (hm : mg "_law_same" = some (.ref (He.ga K "_law_same"))) : ∀ k, CalX P w K mg base CX0 (k + 1) "_law_same" (sp_law_same k)
  | 0 => calx0 (k := 0) F hm sc_law_same (b_law_same F) (fun _ _ _ _ h => sp2_len h) (fun cdv A outer s H vs Q E hr h => by
      obtain ⟨x0, x1, rfl, h, _⟩ := h
      exact h.elim)
  | k + 1 => same_step T F hm k (same_all T F hm k)
theorem sm_str {H : Hp} {k : Nat} (l : List Nat) : Sm H (k + 1) (.str (S l)) (.str (S l)) := .inl ⟨l, rfl, rfl⟩
theorem sm_int {H : Hp} {k : Nat} (n : Int) : Sm H (k + 1) (.int n) (.int n) := .inr (.inl ⟨n, rfl, rfl⟩)
theorem sm_tup {H : Hp} {k : Nat} {a b : Addr} {xs ys : List V} (ha : H a = some (.tup xs)) (hb : H b = some (.tup ys)) (hl : xs.length = ys.length) (hz : xs.length ≤ 100000) (h : ∀ (i : Nat) v u, xs[i]? = some v → ys[i]? = some u → Sm H k v u) : Sm H (k + 1) (.ref a) (.ref b) := .inr (.inr ⟨a, b, xs, ys, rfl, rfl, ha, hb, hl, hz, h⟩)
theorem sm_pair {α : Type} {R R' : V → α → Prop} {P' : V → V → Prop} (hP : ∀ v u y, R v y → R' u y → P' v u) : ∀ {xs ys : List V} {zs : List α}, Paired R xs zs → Paired R' ys zs → ∀ (i : Nat) v u, xs[i]? = some v → ys[i]? = some u → P' v u
  | _, _, _, .nil, .nil, i, v, u, h, _ => by cases h
  | _, _, _, .cons a r, .cons a' r', 0, v, u, h, h' => by cases h; cases h'; exact hP _ _ _ a a'
  | _, _, _, .cons a r, .cons a' r', i + 1, v, u, h, h' => sm_pair hP r r' i v u h h'
theorem sm_lst {H : Hp} {k : Nat} : ∀ {xs ys : List V}, Paired (Sm H k) xs ys → ∀ (i : Nat) v u, xs[i]? = some v → ys[i]? = some u → Sm H k v u
  | _, _, .nil, i, v, u, h, _ => by cases h
  | _, _, .cons a r, 0, v, u, h, h' => by cases h; cases h'; exact a
  | _, _, .cons a r, i + 1, v, u, h, h' => sm_lst r i v u h h'
theorem sm_scr {H : Hp} {v u : V} {p : Nat × List Nat} (h : TupScr H v p) (h' : TupScr H u p) : Sm H 2 v u := by
  obtain ⟨a, rfl, e⟩ := h
  obtain ⟨b, rfl, e'⟩ := h'
  exact sm_tup e e' rfl (Nat.le_of_ble_eq_true rfl) (sm_lst (.cons (sm_int _) (.cons (sm_str _) .nil)))
theorem sm_item {H : Hp} {v u : V} {it : Item} (hz : ∀ s e, it.sc = some (s, e) → s.length ≤ 100000) (h : TItem H v it) (h' : TItem H u it) : Sm H 4 v u := by
  obtain ⟨a, rfl, e⟩ := h
  obtain ⟨b, rfl, e'⟩ := h'
  cases hs : it.sc with
  | none =>
    rw [hs] at e e'
    exact sm_tup e e' rfl (Nat.le_of_ble_eq_true rfl) (sm_lst (.cons (sm_str _) (.cons (sm_int _) (.cons (sm_str _) (.cons (sm_str _) .nil)))))
  | some p =>
    obtain ⟨scr, en⟩ := p
    rw [hs] at e e'
    obtain ⟨q1, us, e1, e2, e3⟩ := e
    obtain ⟨q2, us', e1', e2', e3'⟩ := e'
    have hl1 := paired_len e3
    have hl2 := paired_len e3'
    exact sm_tup e1 e1' rfl (Nat.le_of_ble_eq_true rfl) (sm_lst (.cons (sm_str _) (.cons (sm_int _) (.cons (sm_str _) (.cons (sm_str _) (.cons (sm_tup e2 e2' (by rw [hl1, hl2]) (by rw [hl1]; exact hz _ _ hs) (sm_pair (R := TupScr H) (R' := TupScr H) (P' := Sm H 2) (fun v u y a b => sm_scr a b) e3 e3')) (.cons (sm_int _) .nil)))))))
def rTupT (K : PySem.W.Frag) : List V → Hp → VK → Prop := fun xs H Q => ∃ p ys, xs = [.ref p] ∧ SqT K H p ys ∧ Q (.ref p) H
theorem call_tupT {X : Cx} : CallR X (.type "tuple") (rTupT X.K) := fun pins s σ H xs us Q I r ⟨p, ys, e, h, q⟩ => call_tuple_of pins s σ H xs us Q I r ⟨p, ys, e, .inr ⟨h, q⟩⟩
theorem kit_lt {K : PySem.W.Frag} : PySem.W.kitAny K (.type "tuple") [.type "list", .type "tuple"] = some true :=
  kitAny_cons (b := false) (kit_ty (by decide +kernel)) (fun _ => kitAny_cons (b := true) (kit_ty (by decide +kernel)) (fun z => by cases z) (fun _ => rfl)) (fun z => by cases z)
def sp_law_right (K : PySem.W.Frag) : Sp := sp2 fun x y H Q _ => ∃ (t d a1 a2 b1 b2 : Addr) (own : List Nat) (leans : List (List Nat)) (items : List Item) (vs us : List V), x = .ref t ∧ y = .ref d ∧ H t = some (.tup [.str (S own), .ref a1, .ref a2]) ∧ H a1 = some (.tup (Ws leans)) ∧ H a2 = some (.tup vs) ∧ Paired (TItem H) vs items ∧
  H d = some (.lst [.int 0, .str (S own), .ref b1, .ref b2]) ∧ H b1 = some (.tup (Ws leans)) ∧ H b2 = some (.tup us) ∧ Paired (TItem H) us items ∧ leans.length ≤ 100000 ∧ items.length ≤ 100000 ∧ (∀ it ∈ items, ∀ s e, it.sc = some (s, e) → s.length ≤ 100000) ∧ ∀ H', Same H H' → Q (.bl true) H'
theorem sm_ws {H : Hp} : ∀ (ws : List (List Nat)) (i : Nat) v u, (Ws ws)[i]? = some v → (Ws ws)[i]? = some u → Sm H 1 v u
  | [], i, v, u, h, _ => by simp [Ws] at h
  | w :: ws, 0, v, u, h, h' => by cases h; cases h'; exact sm_str w
  | w :: ws, i + 1, v, u, h, h' => sm_ws ws i v u h h'
theorem sm_items {H : Hp} : ∀ {vs us : List V} {items : List Item}, (∀ it ∈ items, ∀ s e, it.sc = some (s, e) → s.length ≤ 100000) → Paired (TItem H) vs items → Paired (TItem H) us items → ∀ (i : Nat) v u, vs[i]? = some v → us[i]? = some u → Sm H 4 v u
  | _, _, _, _, .nil, .nil, i, v, u, h, _ => by cases h
  | _, _, _, hz, .cons a r, .cons a' r', 0, v, u, h, h' => by cases h; cases h'; exact sm_item (hz _ List.mem_cons_self) a a'
  | _, _, _, hz, .cons a r, .cons a' r', i + 1, v, u, h, h' => sm_items (fun it hit => hz it (List.mem_cons_of_mem _ hit)) r r' i v u h h'
theorem sm_up {H : Hp} : ∀ {k : Nat} {v u : V}, Sm H k v u → Sm H (k + 1) v u
  | 0, _, _, h => h.elim
  | k + 1, v, u, h => by
    rcases h with h | h | ⟨a, b, xs, ys, e1, e2, e3, e4, e5, e6, h⟩
    · exact .inl h
    · exact .inr (.inl h)
    · exact .inr (.inr ⟨a, b, xs, ys, e1, e2, e3, e4, e5, e6, fun i v u q1 q2 => sm_up (h i v u q1 q2)⟩)
theorem ok_law_right (T : Txt w K mg) {fd : FuncData} (F : Fn_law_right K fd) (hm : mg "_law_right" = some (.ref (He.ga K "_law_right"))) (c_law_same : CalX P w K mg base CX0 7 "_law_same" (sp_law_same 6)) : CalX P w K mg base CX0 8 "_law_right" (sp_law_right K) := by
  refine calx0 (k := 7) F hm sc_law_right (b_law_right F) (fun _ _ _ _ h => sp2_len h) (fun cdv A outer s H vs Q E hr h => ?_)
  obtain ⟨x0, x1, rfl, h⟩ := h
  refine ⟨_, (pss_cons (ps_if (PW.pt (pw_or (pt_not (pt_val (pe_callB call_isi (by rfl) T.f_isinstance (by decide +kernel) (pa_cons (pv 0) (pa_cons (pe_bltn (v := .ty "tuple") (by rfl) T.f_tuple (by decide +kernel) rfl) pa_nil))))) (pw_or1 (pt_cmpR op_ne (pe_callB call_lenQ (by rfl) T.f_len PySem.boot_len (pa_cons (pv 0) pa_nil)) pe_int (nomark _)))))
    (pss_one (ps_ret pe_bl))
    pss_nil)
    (pss_cons (ps_if (PW.pt (pw_or (pt_not (pt_val (pe_callB call_isiT (by rfl) T.f_isinstance (by decide +kernel) (pa_cons (pe_ix ix_tup (pv 0) pe_int (fun _ _ => rfl)) (pa_cons (pe_tup (pa_cons (pe_bltn (v := .ty "list") (by rfl) T.f_list (by decide +kernel) rfl) (pa_cons (pe_bltn (v := .ty "tuple") (by rfl) T.f_tuple (by decide +kernel) rfl) pa_nil))) pa_nil))))) (pw_or1 (pt_not (pt_val (pe_callB call_isiT (by rfl) T.f_isinstance (by decide +kernel) (pa_cons (pe_ix ix_tup (pv 0) pe_int (fun _ _ => rfl)) (pa_cons (pe_tup (pa_cons (pe_bltn (v := .ty "list") (by rfl) T.f_list (by decide +kernel) rfl) (pa_cons (pe_bltn (v := .ty "tuple") (by rfl) T.f_tuple (by decide +kernel) rfl) pa_nil))) pa_nil))))))))
    (pss_one (ps_ret pe_bl))
    pss_nil)
    (pss_one (ps_ret (pe_cx c_law_same hr (by decide) rfl pass0 (pa_cons (pe_tup (pa_cons (pe_ix ix_tup (pv 0) pe_int (fun _ _ => rfl)) (pa_cons (pe_callTy call_tupT (by rfl) T.f_tuple (by decide +kernel) (pa_cons (pe_ix ix_tup (pv 0) pe_int (fun _ _ => rfl)) pa_nil)) (pa_cons (pe_callTy call_tupT (by rfl) T.f_tuple (by decide +kernel) (pa_cons (pe_ix ix_tup (pv 0) pe_int (fun _ _ => rfl)) pa_nil)) pa_nil)))) (pa_cons (pe_tup (pa_cons (pe_ix ix_list (pv 1) pe_int (fun _ _ => rfl)) (pa_cons (pe_ix ix_list (pv 1) pe_int (fun _ _ => rfl)) (pa_cons (pe_ix ix_list (pv 1) pe_int (fun _ _ => rfl)) pa_nil)))) pa_nil))))))), ?_⟩
  rw [show start ["told", "due"] [x0, x1] = [some x0, some x1] from rfl]
  obtain ⟨t, d, a1, a2, b1, b2, own, leans, items, vs, us, rfl, rfl, ht, ha1, ha2, hvs, hd, hb1, hb2, hus, hz1, hz2, hz3, hQ⟩ := h
  try dsimp only [cxOf]
  walk_at "w"
  refine w_isi (.base (.tup ht)) kit_tt ?_
  walk_at "w"
  refine w_lenU (SqT.of ht) ?_
  walk_at "w"
  refine w_ndec (fun z => absurd rfl z) (fun _ => ?_)
  walk_at "w"
  refine w_ixU (n := 1) (SqT.of ht) rfl ?_
  walk_at "w"
  refine n_T (fun p1 H1 hp1 s1 e1 => ?_)
  refine ⟨_, p1, _, _, _, true, rfl, e1, .cons (.ty "list") (.cons (.ty "tuple") .nil), .base (.tup (s1 _ _ ha1)), kit_lt, ?_⟩
  walk_at "w"
  refine w_ixU (n := 2) (SqT.of (s1 _ _ ht)) rfl ?_
  walk_at "w"
  refine n_T (fun p2 H2 hp2 s2 e2 => ?_)
  have s12 := s1.tr s2
  refine ⟨_, p2, _, _, _, true, rfl, e2, .cons (.ty "list") (.cons (.ty "tuple") .nil), .base (.tup (s12 _ _ ha2)), kit_lt, ?_⟩
  walk_at "w"
  refine w_ixU (n := 0) (SqT.of (s12 _ _ ht)) rfl ?_
  walk_at "w"
  refine w_ixU (n := 1) (SqT.of (s12 _ _ ht)) rfl ?_
  walk_at "w"
  refine ⟨a1, _, rfl, SqT.of (s12 _ _ ha1), ?_⟩
  walk_at "w"
  refine w_ixU (n := 2) (SqT.of (s12 _ _ ht)) rfl ?_
  walk_at "w"
  refine ⟨a2, _, rfl, SqT.of (s12 _ _ ha2), ?_⟩
  walk_at "w"
  refine n_T (fun p3 H3 hp3 s3 e3 => ?_)
  have s13 := s12.tr s3
  walk_at "w"
  refine w_ixL (n := 1) (SqL.of (s13 _ _ hd)) rfl ?_
  walk_at "w"
  refine w_ixL (n := 2) (SqL.of (s13 _ _ hd)) rfl ?_
  walk_at "w"
  refine w_ixL (n := 3) (SqL.of (s13 _ _ hd)) rfl ?_
  walk_at "w"
  refine n_T (fun p4 H4 hp4 s4 e4 => ?_)
  have s14 := s13.tr s4
  have l1 := paired_len hvs
  have l2 := paired_len hus
  refine ⟨_, _, rfl, sm_tup (s4 _ _ e3) e4 rfl (Nat.le_of_ble_eq_true rfl) (sm_lst (.cons (sm_str _) (.cons (sm_up (sm_up (sm_up (sm_tup (k := 1) (s14 _ _ ha1) (s14 _ _ hb1) rfl (by rw [ws_len]; exact hz1) (sm_ws leans))))) (.cons (sm_tup (s14 _ _ ha2) (s14 _ _ hb2) (by rw [l1, l2]) (by rw [l1]; exact hz2) (sm_items hz3 (pitem_tm (tm_same s14) hvs) (pitem_tm (tm_same s14) hus))) .nil)))), ?_⟩
  exact hQ H4 s14

end
end K36

namespace K36
open PySem PySem.Spec PyProof.Rows L2 SX
local macro_rules | `(tactic| walk_at "w1") => `(tactic| (first
  | with_reducible refine w_seq ?_ | with_reducible refine w_asgN ?_ | with_reducible refine w_c ?_
  | ((with_reducible refine' w_var ?wv ?_); (case wv => exact rfl))
  | with_reducible refine w_op ?_ | with_reducible refine w_un ?_ | with_reducible refine w_next ?_ | with_reducible refine w_brk ?_ | with_reducible refine w_cnt ?_
  | with_reducible refine w_ifS ?_ | with_reducible refine w_if ?_ | with_reducible refine w_test ?_ | with_reducible refine w_tB ?_ | with_reducible refine w_bl ?_ | with_reducible refine w_blI ?_
  | with_reducible refine w_and ?_ | with_reducible refine w_or ?_ | with_reducible refine w_not ?_ | with_reducible refine w_andV ?_ | with_reducible refine w_orV ?_ | with_reducible refine w_notV ?_
  | with_reducible refine w_nil ?_ | with_reducible refine w_cons ?_ | with_reducible refine w_cb ?_ | with_reducible refine w_call ?_ | with_reducible refine w_callS ?_ | with_reducible refine w_chain ?_
  | with_reducible refine w_tupN ?_ | with_reducible refine w_lstN ?_ | with_reducible refine w_sl ?_ | with_reducible refine w_noPart ?_ | with_reducible refine w_part ?_ | with_reducible refine w_partI ?_
  | with_reducible refine w_ret ?_ | with_reducible refine w_retN ?_ | with_reducible refine w_drop ?_ | with_reducible refine w_asg ?_ | with_reducible refine w_gSub ?_
  | ((with_reducible refine' w_aug ?wv ?_); (case wv => exact rfl)) | with_reducible refine w_ipI ?_
  | with_reducible refine w_addI ?_ | with_reducible refine w_subI ?_ | with_reducible refine w_ltI ?_ | with_reducible refine w_leI ?_ | with_reducible refine w_gtI ?_ | with_reducible refine w_geI ?_
  | with_reducible refine w_eqI ?_ | with_reducible refine w_neI ?_ | with_reducible refine w_eqT ?_ | with_reducible refine w_neT ?_ | with_reducible refine w_inS ?_ | with_reducible refine w_ninS ?_
  | with_reducible refine w_absI ?_ | with_reducible refine w_intI ?_ | with_reducible refine w_maxI ?_ | with_reducible refine w_minI ?_
  | with_reducible refine w_for ?_ | with_reducible refine w_iR1 ?_ | with_reducible refine w_iR2 ?_ | with_reducible refine w_iStr ?_ | with_reducible refine w_strI ?_ | with_reducible refine w_iList ?_ | with_reducible refine w_iTup ?_
  | with_reducible refine w_bm ?_ | with_reducible refine w_bm0 ?_ | with_reducible refine w_t ?_ | with_reducible refine w_f ?_ | with_reducible refine w_nt ?_ | with_reducible refine w_nx ?_ | with_reducible refine w_rt ?_ | with_reducible refine w_bk ?_ | with_reducible refine w_ct ?_ | with_reducible refine w_nf ?_ | with_reducible refine w_lc ?_ | with_reducible refine w_yes ?_ | with_reducible refine w_neg ?_ | with_reducible refine w_intB ?_ | with_reducible refine w_fld ?_ | with_reducible refine w_setf ?_ | with_reducible refine w_faug ?_ | with_reducible refine w_meth ?_ | with_reducible refine w_bmS ?_ | with_reducible refine w_start ?_))
local macro_rules | `(tactic| walk_at "w") => `(tactic| (repeat (first | walk_at "w1" | dsimp (config := { proj := false }) only [List.set_cons_zero, List.set_cons_succ])))
section
variable {w : World} {K : PySem.W.Frag} {mg : Str → Option Value} {base : Heap}

theorem step_bad {st : St0} {r : Row} {n m : Nat} (h : step st r n = .inr m) : m = n := by
  cases st with
  | title => rw [step_title] at h; split at h <;> cases h; rfl
  | after o =>
    rw [step_after] at h
    split at h
    · split at h <;> cases h; rfl
    · rw [item_eq] at h; split at h <;> cases h; rfl
  | items o l a => rw [step_items, item_eq] at h; split at h <;> cases h; rfl
  | script o l a it scr => rw [step_script] at h; split at h <;> cases h
theorem rdp_pos : ∀ (rows : List Row) (k : Nat) (st : St0) {m : Nat}, rdp rows k st = .fault m → 1 ≤ m
  | [], k, st, m, h => by
    cases st <;> cases h <;> omega
  | r :: rs, k, st, m, h => by
    rw [rdp_cons] at h
    split at h
    · cases h; omega
    · split at h
      · exact rdp_pos rs _ _ h
      · split at h
        · rename_i n hn; have := step_bad hn; cases h; omega
        · exact rdp_pos rs _ _ h
def StOk (k : Nat) : St0 → Prop
  | .title => True
  | .after _ => True
  | .items _ l a => l.length ≤ 1000 ∧ a.length ≤ k ∧ ∀ it ∈ a, ∀ s e, it.sc = some (s, e) → s.length ≤ k
  | .script _ l a it scr => l.length ≤ 1000 ∧ a.length ≤ k ∧ (∀ it ∈ a, ∀ s e, it.sc = some (s, e) → s.length ≤ k) ∧ scr.length ≤ k
theorem itm_sc {r : Row} {n : Nat} {it : Item} (h : itm r n = some it) : it.sc = none := by
  unfold itm at h
  split at h
  · split at h <;> cases h; rfl
  · split at h
    · cases h
    · split at h <;> cases h; rfl
theorem stok_up {k : Nat} {st : St0} (h : StOk k st) : StOk (k + 1) st := by
  cases st with
  | title => trivial
  | after o => trivial
  | items o l a => exact ⟨h.1, Nat.le_succ_of_le h.2.1, fun it hi s e q => Nat.le_succ_of_le (h.2.2 it hi s e q)⟩
  | script o l a it scr => exact ⟨h.1, Nat.le_succ_of_le h.2.1, fun it hi s e q => Nat.le_succ_of_le (h.2.2.1 it hi s e q), Nat.le_succ_of_le h.2.2.2⟩
theorem stok_item {own : List Nat} {leans : List (List Nat)} {acc : List Item} {r : Row} {n k : Nat} {st' : St0} (hl : leans.length ≤ 1000) (ha : acc.length ≤ k) (hs : ∀ it ∈ acc, ∀ s e, it.sc = some (s, e) → s.length ≤ k) (h : St0.item own leans acc r n = .inl st') : StOk (k + 1) st' := by
  rw [item_eq] at h
  cases e : itm r n with
  | none => rw [e] at h; cases h
  | some it =>
    rw [e] at h
    dsimp only at h
    cases h
    split
    · exact ⟨hl, Nat.le_succ_of_le ha, fun it hi s e q => Nat.le_succ_of_le (hs it hi s e q), Nat.zero_le _⟩
    · refine ⟨hl, by rw [List.length_append]; exact Nat.succ_le_succ ha, fun it' hi s e' q => ?_⟩
      rcases List.mem_append.mp hi with hi | hi
      · exact Nat.le_succ_of_le (hs it' hi s e' q)
      · rw [List.mem_singleton.mp hi, itm_sc e] at q; cases q
theorem stok_step {st st' : St0} {r : Row} {n k : Nat} (hr : r.1.length ≤ 1000) (h : StOk k st) (e : step st r n = .inl st') : StOk (k + 1) st' := by
  cases st with
  | title => rw [step_title] at e; split at e <;> cases e; trivial
  | after o =>
    rw [step_after] at e
    split at e
    · split at e <;> cases e
      exact ⟨by rw [List.length_drop]; omega, Nat.zero_le _, fun it hi => by cases hi⟩
    · exact stok_item (Nat.zero_le _) (Nat.zero_le _) (fun it hi => by cases hi) e
  | items o l a => rw [step_items] at e; exact stok_item h.1 h.2.1 h.2.2 e
  | script o l a it scr =>
    rw [step_script] at e
    split at e
    · cases e
      refine ⟨h.1, by rw [List.length_append]; exact Nat.succ_le_succ h.2.1, fun it' hi s e' q => ?_⟩
      rcases List.mem_append.mp hi with hi | hi
      · exact Nat.le_succ_of_le (h.2.2.1 it' hi s e' q)
      · rw [List.mem_singleton.mp hi] at q; cases q; exact Nat.le_succ_of_le h.2.2.2
    · cases e
      exact ⟨h.1, Nat.le_succ_of_le h.2.1, fun it hi s e q => Nat.le_succ_of_le (h.2.2.1 it hi s e q), by rw [List.length_append]; exact Nat.succ_le_succ h.2.2.2⟩
theorem rdp_ok : ∀ (rows : List Row) (k : Nat) (st : St0), (∀ r ∈ rows, r.1.length ≤ 1000) → StOk k st → ∀ {own : List Nat} {leans : List (List Nat)} {items : List Item}, rdp rows k st = .ok own leans items → leans.length ≤ 1000 ∧ items.length ≤ k + rows.length ∧ ∀ it ∈ items, ∀ s e, it.sc = some (s, e) → s.length ≤ k + rows.length
  | [], k, st, _, h, own, leans, items, e => by
    cases st with
    | title => cases e
    | script => cases e
    | after o => cases e; exact ⟨Nat.zero_le _, Nat.zero_le _, fun it hi => by cases hi⟩
    | items o l a => cases e; exact h
  | r :: rs, k, st, hr, h, own, leans, items, e => by
    have hl : k + (r :: rs).length = k + 1 + rs.length := by rw [List.length_cons]; omega
    rw [rdp_cons] at e
    rw [hl]
    split at e
    · cases e
    · split at e
      · exact rdp_ok rs _ _ (fun r hr' => hr r (List.mem_cons_of_mem _ hr')) (stok_up h) e
      · split at e
        · cases e
        · rename_i st' hst; exact rdp_ok rs _ _ (fun r hr' => hr r (List.mem_cons_of_mem _ hr')) (stok_step (hr r List.mem_cons_self) h hst) e
theorem joinL_len : ∀ (ls : List (List Nat)), (TL.joinL [10] ls).length ≤ (ls.map List.length).sum + ls.length
  | [] => Nat.zero_le _
  | [p] => by show p.length ≤ _; simp
  | p :: q :: r => by
    have := joinL_len (q :: r)
    show (p ++ ([10] ++ TL.joinL [10] (q :: r))).length ≤ _
    rw [List.length_append, List.length_append, List.map_cons, List.sum_cons, show (p :: q :: r).length = (q :: r).length + 1 from rfl]
    show p.length + (1 + _) ≤ _
    omega
/-- the judge's and the program's page of a list of rows -/
def RsA (H : Hp) (xs : List V) : Prop := ∀ v ∈ xs, Rs H v
theorem rows_of {H : Hp} : ∀ {xs : List V}, RsA H xs → ∃ p : List Row, Paired (RowV H) xs p ∧ ∀ r ∈ p, Good r ∧ Fit r
  | [], _ => ⟨[], .nil, fun r h => by cases h⟩
  | v :: xs, h => by
    obtain ⟨r, h1, h2⟩ := h v List.mem_cons_self
    obtain ⟨p, h3, h4⟩ := rows_of (xs := xs) fun v hv => h v (List.mem_cons_of_mem _ hv)
    exact ⟨r :: p, .cons h1 h3, fun r' hr' => by rcases List.mem_cons.mp hr' with rfl | z; exact h2; exact h4 r' z⟩
theorem RA.rs {n : Nat} {H : Hp} {xs : List V} (h : RA n H xs) (hn : n ≤ 40) : RsA H xs := fun v hv => (h v hv).rs hn
/-- a page as data -/
theorem dpI {K : PySem.W.Frag} {H : Hp} : ∀ ps : List Nat, DpAll K H (Is ps) (ps.map fun (p : Nat) => PyData.int (p : Int)) ∧ PyData.canLayAll0 (ps.map fun (p : Nat) => PyData.int (p : Int)) = true ∧ PyData.depthAll (ps.map fun (p : Nat) => PyData.int (p : Int)) ≤ 1
  | [] => ⟨.nil, rfl, Nat.zero_le _⟩
  | p :: ps => by
    obtain ⟨a, b, c⟩ := dpI (K := K) (H := H) ps
    refine ⟨.cons (.int _) a, ?_, ?_⟩
    · simp only [List.map_cons, PyData.canLayAll0, PyData.canLay0, Bool.true_and]; exact b
    · simp only [List.map_cons, PyData.depthAll, PyData.depth]; omega
theorem dpP {K : PySem.W.Frag} {H : Hp} {n : Nat} : ∀ {xs : List V}, RA n H xs → ∃ ds, DpAll K H xs ds ∧ PyData.canLayAll0 ds = true ∧ PyData.depthAll ds ≤ 10 ∧ ds.length = xs.length
  | [], _ => ⟨[], .nil, rfl, Nat.zero_le _, rfl⟩
  | v :: xs, h => by
    obtain ⟨r, ⟨a, b, c, rfl, ha, hb, hc⟩, h2, h3, _⟩ := h v List.mem_cons_self
    obtain ⟨ds, q1, q2, q3, q4⟩ := dpP (K := K) (xs := xs) fun v hv => h v (List.mem_cons_of_mem _ hv)
    obtain ⟨w1, w2⟩ := shS r.1 fun w hw c hc => ((h3 w hw).2.2 c hc).2.2
    obtain ⟨i1, i2, i3⟩ := dpI (K := K) (H := H) r.2
    refine ⟨.list [.list (r.1.map fun r => PyData.str (S r)), .list (r.2.map fun (p : Nat) => PyData.int (p : Int))] :: ds, .cons (.lst (SqL.of ha) (.cons (.lst (SqL.of hb) (dpS r.1)) (.cons (.lst (SqL.of hc) i1) .nil))) q1, ?_, ?_, by rw [List.length_cons, q4]; rfl⟩
    · simp only [PyData.canLayAll0, PyData.canLay0, w1, i2, q2, Bool.and_true]
    · simp only [PyData.depthAll, PyData.depth]; omega
theorem w_eqPage {K : PySem.W.Frag} {H : Hp} {Q : VK} {n : Nat} {p q : Addr} {xs : List V} (hp : H p = some (.lst xs)) (hR : RA n H xs) (hq : H q = some (.lst [])) (h : Q (.bl (decide (xs = []))) H) : rEqD K (.ref p) (.ref q) H Q := by
  obtain ⟨ds, q1, q2, q3, q4⟩ := dpP (K := K) hR
  refine ⟨.list ds, .list [], .lst (SqL.of hp) q1, .lst (SqL.of hq) .nil, ?_, by decide, ?_⟩
  · show ((PyData.canLay0 (.list _)) && decide (PyData.depth (.list _) ≤ 64)) = true
    rw [Bool.and_eq_true]
    exact ⟨by simp only [PyData.canLay0]; exact q2, decide_eq_true (by simp only [PyData.depth]; omega)⟩
  · have : PyData.eqv (.list ds) (.list []) = decide (xs = []) := by
      cases xs with
      | nil => have : ds = [] := List.length_eq_zero_iff.mp q4; subst this; rfl
      | cons v xs =>
        cases ds with
        | nil => cases q4
        | cons d ds => rfl
    rw [this]; exact h
end
end K36

/-! A call of a def from within an except suite: the exception in hand is free. -/
namespace L2
open PySem PySem.Spec PyProof.Rows
structure RoomS (k : Nat) (A : Around) : Prop where
  dp : A.depth + 3 * k + 5 < recursionLimit
  un : A.units + 16 * k + 200 < cLine
theorem RoomS.mono {j k : Nat} {A : Around} (r : RoomS k A) (h : j ≤ k) : RoomS j A := ⟨by have := r.dp; omega, by have := r.un; omega⟩
theorem RoomS.deeper {k : Nat} {A : Around} (r : RoomS (k + 1) A) (env : Env) : RoomS k (A.deeper env) :=
  ⟨by have := r.dp; show A.depth + 1 + 3 * k + 5 < _; omega, by have := r.un; show A.units + 3 + 16 * k + 200 < _; omega⟩
theorem RoomS.depth {k : Nat} {A : Around} (r : RoomS k A) : A.depth < recursionLimit := by have := r.dp; omega
theorem RoomS.of {k : Nat} {A : Around} (r : Room k A) : RoomS k A := ⟨r.dp, r.un⟩
def _root_.L2.Cx.loud (X : Cx) : Cx := { X with calm := false }
structure FnS (P : Program) (w : World) (K : PySem.W.Frag) (mg : Str → Option Value) (base : Heap) (CX : CXT) (k : Nat) (f : Addr) (fd : FuncData) (ps : List Str) (sp : Sp) : Prop where
  len : ∀ vs H Q E, sp vs H Q E → vs.length = ps.length
  run : ∀ (A : Around) (outer : List Env) (s : Shared) (H : Hp) (args : Args) (us : List Value) (vs : List V) (Q : VK) (E : XK), RoomS k A → Env0 P w K mg base A outer s H → BindsTo s fd args (ps.zip us) → Vals vs us → sp vs H Q E →
    codeAny (model P w) A (.call (.ref f) args) (CR CX outer P w H s Q E) s
theorem FunD.okS {P : Program} {w : World} {K : PySem.W.Frag} {mg : Str → Option Value} {base : Heap} {x qual : Str} {params : Arguments} {body : List Stmt} {scope : Scope} {dvs : List V} {kws : List (Str × V)} {f : Addr} {fd : FuncData}
    {CX : CXT} {N ps : List Str} {k : Nat} {sp : Sp} (F : FunD K x qual params body scope dvs kws f fd) (S : FnScope N ps scope) (len : ∀ vs H Q E, sp vs H Q E → vs.length = ps.length)
    (hbody : ∀ (cdv : Value) (A : Around) (outer : List Env) (s : Shared) (H : Hp) (vs : List V) (Q : VK) (E : XK), RoomS k (A.deeper (envOfC qual scope s.heap.objs.size f cdv)) → sp vs H Q E →
      ∃ t, PSs (cxOf CX P w K mg base N qual scope f cdv A outer s H E).loud body t ∧ t { nx := fun _ H' => Q .non H', rt := Q } (start N vs) H) : FnS P w K mg base CX (k + 1) f fd ps sp := by
  obtain ⟨oc, od, dV, kV, doc, pm, an, cdv, ct, osl, rfl, lk, hcd, _, _⟩ := F.ex
  refine ⟨len, fun A outer s H args us vs Q E hr e0 hb r hsp => ?_⟩
  have hl := len _ _ _ _ hsp
  have KX : K.In s.heap := e0.mod.kin.keeps fun b o e => (e0.bs b o e).1
  have lim : s.heap.NoLimit := e0.mod.nolimit.keeps fun b o e => (e0.bs b o e).1
  have hkind : ∀ y ∈ ps.zip us, scope.names.lookup y.1 = some .local ∨ (scope.names.lookup y.1 = some .cell ∧ ((cellsFrom (s.heap.objs.size + 1) scope.names []).lookup y.1).isSome = true) := fun ⟨n, v⟩ hy => by
    rcases S.par n (List.of_mem_zip hy).1 with q | q
    · exact .inl q
    · exact .inr ⟨q, PySem.W.cellsFrom_some _ _ _ (.inl q)⟩
  refine codeAny_call_function hr.depth (KX _ _ lk) rfl S.co S.gen rfl (PySem.W.codeRec_of KX hcd) (hb _ _ _ _ ?_)
  refine wpAny_newFunctionEnv_cells S.kind hkind fun env he s1 x => ?_
  subst he
  refine ⟨lim.keeps x.toInCall.keep, codeAny_func ?_⟩
  obtain ⟨t, ht, hq⟩ := hbody cdv A outer s H vs Q E (hr.deeper _) hsp
  have e1 : Env0 P w K mg base { A with handled := none } outer s H := ⟨e0.frames, e0.mod, e0.bs, e0.bsz, e0.funs, e0.frf, e0.hok, e0.bare⟩
  have I0 : Inv (cxOf CX P w K mg base N qual scope f cdv { A with handled := none } outer s H E) [] (start N vs) H s1 := inv_start S rfl e1 hl r x
  have I : Inv (cxOf CX P w K mg base N qual scope f cdv A outer s H E).loud [] (start N vs) H s1 := { I0 with ok := { I0.ok with hd := fun z => nomatch (show false = true from z) } }
  refine wpAny_mono (ht.run [] s1 (start N vs) H _ I hq) (fun fl s' hs => ?_) fun e s' hs => hs
  have fin : ∀ {σ' : St} {H' : Hp} {v : V} {u : Value}, Inv (cxOf CX P w K mg base N qual scope f cdv A outer s H E).loud [] σ' H' s' → RelV v u → Q v H' → CE outer P w H s Q u s' :=
    fun {σ' H' v u} J rv q => ⟨v, H', J.os, J.bare, J.base, J.hok, rv, q⟩
  cases fl with
  | ret u =>
    obtain ⟨v, σ', H', J, rv, q⟩ := hs
    exact fin J rv q
  | next =>
    obtain ⟨σ', H', J, q⟩ := hs
    exact fin (v := V.non) (u := Value.none) J rfl q
  | brk =>
    obtain ⟨_, _, _, q⟩ := hs
    exact False.elim q
  | cont =>
    obtain ⟨_, _, _, q⟩ := hs
    exact False.elim q
/-- a def of the module, called whatever exception is in hand -/
structure CalS (P : Program) (w : World) (K : PySem.W.Frag) (mg : Str → Option Value) (base : Heap) (CX : CXT) (k : Nat) (x : Str) (sp : Sp) : Prop where
  ex : ∃ (f : Addr) (fd : FuncData) (ps : List Str), FnS P w K mg base CX k f fd ps sp ∧ mg x = some (.ref f) ∧ PySem.W.keepIn K (.ref f) = true ∧ Binds K fd ps []
section
variable {X : Cx} {CX : CXT} {k j : Nat} {x : Str} {sp : Sp} {p pos : Pos} {e : Expr} {es : List Expr} {t : TA} {E : XK}
theorem pe_cs (c : CalS X.prog X.w X.K X.mg X.base CX k x sp) (hr : RoomS j X.A) (hk : k ≤ j) (hg : Gl X x) (hx : Passes CX X E) (ha : PA X (e :: es) t)
    (hdb : (x == ("__debug__" : Str)) = false := by decide) (he : starEach (e :: es) X.env = (false, eval e X.env) :: starEach es X.env := by rfl) (hpl : (backTo pos (starEach es X.env)).any (·.1) = false := by rfl) :
    PE X (.Call (.Name x p) (e :: es) [] pos) (tCall sp [] E t) := by
  obtain ⟨f, fd, ps, F, hm, kp, hb⟩ := c.ex
  refine ⟨fun pins s σ H Q I h => ?_⟩
  refine wpAny_Call_Name_kw (ld_glob I hg hm ?_ hdb)
  refine PySem.W.callWith_K (h₀ := X.base) I.ok.mod.kin kp (thn (ha.run pos pins s σ H _ I h) fun us s1 ⟨vs, H1, I1, r, q⟩ => ⟨I1.kIn, ?_⟩) he hpl
  have q' : sp vs H1 Q E := by simpa using q
  have hl : us.length = ps.length := by rw [← r.length]; exact F.len _ _ _ _ q'
  have hb' := hb s1 us I1.kIn (by simpa using hl)
  rw [List.append_nil] at hb'
  refine wpAny_call (codeAny_mono (F.run X.A X.stack s1 H1 ⟨us, []⟩ us vs Q E (hr.mono hk) I1.env0 hb' r q') fun r s' hq => ?_)
  cases r with
  | error e => exact hx pins σ H1 s1 e s' I1 hq
  | ok fl =>
    cases fl with
    | ret u => exact I1.after hq
    | next => exact False.elim hq
    | brk => exact False.elim hq
    | cont => exact False.elim hq
end
section
variable {P : Program} {w : World} {K : PySem.W.Frag} {mg : Str → Option Value} {base : Heap}
theorem cals0 {x : Str} {params : Arguments} {body : List Stmt} {scope : Scope} {f : Addr} {fd : FuncData} {N ps : List Str} {k : Nat} {sp : Sp} (F : FunD K x x params body scope [] [] f fd) (hm : mg x = some (.ref f)) (S : FnScope N ps scope)
    (b : Binds K fd ps []) (len : ∀ vs H Q E, sp vs H Q E → vs.length = ps.length)
    (hbody : ∀ (cdv : Value) (A : Around) (outer : List Env) (s : Shared) (H : Hp) (vs : List V) (Q : VK) (E : XK), RoomS k (A.deeper (envOfC x scope s.heap.objs.size f cdv)) → sp vs H Q E →
      ∃ t, PSs (cxOf CX0 P w K mg base N x scope f cdv A outer s H E).loud.nox body t ∧ t { nx := fun _ H' => Q .non H', rt := Q } (start N vs) H) : CalS P w K mg base CX0 (k + 1) x sp :=
  ⟨f, fd, ps, F.okS S len fun cdv A outer s H vs Q E hr h => by
    obtain ⟨t, h1, h2⟩ := hbody cdv A outer s H vs Q E hr h
    exact ⟨t, h1.nox, h2⟩, hm, F.kp, b⟩
end
end L2

namespace K36
open PySem PySem.Spec PyProof.Rows L2 SX
local macro_rules | `(tactic| walk_at "w1") => `(tactic| (first
  | with_reducible refine w_seq ?_ | with_reducible refine w_asgN ?_ | with_reducible refine w_c ?_
  | ((with_reducible refine' w_var ?wv ?_); (case wv => exact rfl))
  | with_reducible refine w_op ?_ | with_reducible refine w_un ?_ | with_reducible refine w_next ?_ | with_reducible refine w_brk ?_ | with_reducible refine w_cnt ?_
  | with_reducible refine w_ifS ?_ | with_reducible refine w_if ?_ | with_reducible refine w_test ?_ | with_reducible refine w_tB ?_ | with_reducible refine w_bl ?_ | with_reducible refine w_blI ?_
  | with_reducible refine w_and ?_ | with_reducible refine w_or ?_ | with_reducible refine w_not ?_ | with_reducible refine w_andV ?_ | with_reducible refine w_orV ?_ | with_reducible refine w_notV ?_
  | with_reducible refine w_nil ?_ | with_reducible refine w_cons ?_ | with_reducible refine w_cb ?_ | with_reducible refine w_call ?_ | with_reducible refine w_callS ?_ | with_reducible refine w_chain ?_
  | with_reducible refine w_tupN ?_ | with_reducible refine w_lstN ?_ | with_reducible refine w_sl ?_ | with_reducible refine w_noPart ?_ | with_reducible refine w_part ?_ | with_reducible refine w_partI ?_
  | with_reducible refine w_ret ?_ | with_reducible refine w_retN ?_ | with_reducible refine w_drop ?_ | with_reducible refine w_asg ?_ | with_reducible refine w_gSub ?_
  | ((with_reducible refine' w_aug ?wv ?_); (case wv => exact rfl)) | with_reducible refine w_ipI ?_
  | with_reducible refine w_addI ?_ | with_reducible refine w_subI ?_ | with_reducible refine w_ltI ?_ | with_reducible refine w_leI ?_ | with_reducible refine w_gtI ?_ | with_reducible refine w_geI ?_
  | with_reducible refine w_eqI ?_ | with_reducible refine w_neI ?_ | with_reducible refine w_eqT ?_ | with_reducible refine w_neT ?_ | with_reducible refine w_inS ?_ | with_reducible refine w_ninS ?_
  | with_reducible refine w_absI ?_ | with_reducible refine w_intI ?_ | with_reducible refine w_maxI ?_ | with_reducible refine w_minI ?_
  | with_reducible refine w_for ?_ | with_reducible refine w_iR1 ?_ | with_reducible refine w_iR2 ?_ | with_reducible refine w_iStr ?_ | with_reducible refine w_strI ?_ | with_reducible refine w_iList ?_ | with_reducible refine w_iTup ?_
  | with_reducible refine w_bm ?_ | with_reducible refine w_bm0 ?_ | with_reducible refine w_t ?_ | with_reducible refine w_f ?_ | with_reducible refine w_nt ?_ | with_reducible refine w_nx ?_ | with_reducible refine w_rt ?_ | with_reducible refine w_bk ?_ | with_reducible refine w_ct ?_ | with_reducible refine w_nf ?_ | with_reducible refine w_lc ?_ | with_reducible refine w_yes ?_ | with_reducible refine w_neg ?_ | with_reducible refine w_intB ?_ | with_reducible refine w_fld ?_ | with_reducible refine w_setf ?_ | with_reducible refine w_faug ?_ | with_reducible refine w_meth ?_ | with_reducible refine w_bmS ?_ | with_reducible refine w_start ?_))
local macro_rules | `(tactic| walk_at "w") => `(tactic| (repeat (first | walk_at "w1" | dsimp (config := { proj := false }) only [List.set_cons_zero, List.set_cons_succ])))
section
variable {w : World} {K : PySem.W.Frag} {mg : Str → Option Value} {base : Heap}
theorem ps_never {X : Cx} {st : Stmt} : PS X st (fun _ _ _ => False) := ⟨fun _ _ _ _ _ _ h => h.elim⟩
def sp_law_sameI : Sp := sp2 fun x y H Q _ => ∃ n : Int, x = .int n ∧ y = .int n ∧ Q (.bl true) H
theorem same_int (T : Txt w K mg) {fd : FuncData} (F : Fn_law_same K fd) (hm : mg "_law_same" = some (.ref (He.ga K "_law_same"))) : CalS P w K mg base CX0 1 "_law_same" sp_law_sameI := by
  refine cals0 (k := 0) F hm sc_law_same (b_law_same F) (fun _ _ _ _ h => sp2_len h) (fun cdv A outer s H vs Q E hr h => ?_)
  obtain ⟨x0, x1, rfl, h⟩ := h
  refine ⟨_, (pss_cons (ps_if (pt_val (pe_callB call_isi (by rfl) T.f_isinstance (by decide +kernel) (pa_cons (pv 1) (pa_cons (pe_bltn (v := .ty "tuple") (by rfl) T.f_tuple (by decide +kernel) rfl) pa_nil))))
    (pss_cons (ps_if (PW.pt (pw_or (pt_not (pt_val (pe_callB call_isi (by rfl) T.f_isinstance (by decide +kernel) (pa_cons (pv 0) (pa_cons (pe_bltn (v := .ty "tuple") (by rfl) T.f_tuple (by decide +kernel) rfl) pa_nil))))) (pw_or1 (pt_cmpR op_ne (pe_callB call_lenQ (by rfl) T.f_len PySem.boot_len (pa_cons (pv 0) pa_nil)) (pe_callB call_lenQ (by rfl) T.f_len PySem.boot_len (pa_cons (pv 1) pa_nil)) (nomark _)))))
    (pss_one (ps_ret pe_bl))
    pss_nil)
    (pss_cons (ps_never)
    (pss_one (ps_ret pe_bl))))
    pss_nil)
    (pss_cons (ps_if (pt_val (pe_callB call_isi (by rfl) T.f_isinstance (by decide +kernel) (pa_cons (pv 1) (pa_cons (pe_bltn (v := .ty "str") (by rfl) T.f_str (by decide +kernel) rfl) pa_nil))))
    (pss_one (ps_ret (pe_and (pe_callB call_isi (by rfl) T.f_isinstance (by decide +kernel) (pa_cons (pv 0) (pa_cons (pe_bltn (v := .ty "str") (by rfl) T.f_str (by decide +kernel) rfl) pa_nil))) (pe_one (pe_cmpR op_eq (pv 0) (pv 1) (nomark _))))))
    pss_nil)
    (pss_one (ps_ret (pe_and (pe_callB call_isi (by rfl) T.f_isinstance (by decide +kernel) (pa_cons (pv 0) (pa_cons (pe_bltn (v := .ty "int") (by rfl) T.f_int (by decide +kernel) rfl) pa_nil))) (pe_and (pe_not (pe_callB call_isi (by rfl) T.f_isinstance (by decide +kernel) (pa_cons (pv 0) (pa_cons (pe_bltn (v := .ty "bool") (by rfl) T.f_bool (by decide +kernel) rfl) pa_nil)))) (pe_one (pe_cmpR op_eq (pv 0) (pv 1) (nomark _))))))))), ?_⟩
  rw [show start ["told", "due", "k"] [x0, x1] = [some x0, some x1, none] from rfl]
  obtain ⟨n, rfl, rfl, hQ⟩ := h
  try dsimp only [cxOf, Cx.loud]
  walk_at "w"
  refine w_isi (.base (.int _)) k_it ?_
  walk_at "w"
  refine w_isi (.base (.int _)) k_is' ?_
  walk_at "w"
  refine w_isi (.base (.int _)) kit_ii ?_
  walk_at "w"
  refine w_isi (.base (.int _)) kit_ib ?_
  walk_at "w"
  rw [decide_eq_true rfl]; exact hQ
end
end K36

namespace K36
open PySem PySem.Spec PyProof.Rows L2 SX
local macro_rules | `(tactic| walk_at "w1") => `(tactic| (first
  | with_reducible refine w_seq ?_ | with_reducible refine w_asgN ?_ | with_reducible refine w_c ?_
  | ((with_reducible refine' w_var ?wv ?_); (case wv => exact rfl))
  | with_reducible refine w_op ?_ | with_reducible refine w_un ?_ | with_reducible refine w_next ?_ | with_reducible refine w_brk ?_ | with_reducible refine w_cnt ?_
  | with_reducible refine w_ifS ?_ | with_reducible refine w_if ?_ | with_reducible refine w_test ?_ | with_reducible refine w_tB ?_ | with_reducible refine w_bl ?_ | with_reducible refine w_blI ?_
  | with_reducible refine w_and ?_ | with_reducible refine w_or ?_ | with_reducible refine w_not ?_ | with_reducible refine w_andV ?_ | with_reducible refine w_orV ?_ | with_reducible refine w_notV ?_
  | with_reducible refine w_nil ?_ | with_reducible refine w_cons ?_ | with_reducible refine w_cb ?_ | with_reducible refine w_call ?_ | with_reducible refine w_callS ?_ | with_reducible refine w_chain ?_
  | with_reducible refine w_tupN ?_ | with_reducible refine w_lstN ?_ | with_reducible refine w_sl ?_ | with_reducible refine w_noPart ?_ | with_reducible refine w_part ?_ | with_reducible refine w_partI ?_
  | with_reducible refine w_ret ?_ | with_reducible refine w_retN ?_ | with_reducible refine w_drop ?_ | with_reducible refine w_asg ?_ | with_reducible refine w_gSub ?_
  | ((with_reducible refine' w_aug ?wv ?_); (case wv => exact rfl)) | with_reducible refine w_ipI ?_
  | with_reducible refine w_addI ?_ | with_reducible refine w_subI ?_ | with_reducible refine w_ltI ?_ | with_reducible refine w_leI ?_ | with_reducible refine w_gtI ?_ | with_reducible refine w_geI ?_
  | with_reducible refine w_eqI ?_ | with_reducible refine w_neI ?_ | with_reducible refine w_eqT ?_ | with_reducible refine w_neT ?_ | with_reducible refine w_inS ?_ | with_reducible refine w_ninS ?_
  | with_reducible refine w_absI ?_ | with_reducible refine w_intI ?_ | with_reducible refine w_maxI ?_ | with_reducible refine w_minI ?_
  | with_reducible refine w_for ?_ | with_reducible refine w_iR1 ?_ | with_reducible refine w_iR2 ?_ | with_reducible refine w_iStr ?_ | with_reducible refine w_strI ?_ | with_reducible refine w_iList ?_ | with_reducible refine w_iTup ?_
  | with_reducible refine w_bm ?_ | with_reducible refine w_bm0 ?_ | with_reducible refine w_t ?_ | with_reducible refine w_f ?_ | with_reducible refine w_nt ?_ | with_reducible refine w_nx ?_ | with_reducible refine w_rt ?_ | with_reducible refine w_bk ?_ | with_reducible refine w_ct ?_ | with_reducible refine w_nf ?_ | with_reducible refine w_lc ?_ | with_reducible refine w_yes ?_ | with_reducible refine w_neg ?_ | with_reducible refine w_intB ?_ | with_reducible refine w_fld ?_ | with_reducible refine w_setf ?_ | with_reducible refine w_faug ?_ | with_reducible refine w_meth ?_ | with_reducible refine w_bmS ?_ | with_reducible refine w_start ?_))
local macro_rules | `(tactic| walk_at "w") => `(tactic| (repeat (first | walk_at "w1" | dsimp (config := { proj := false }) only [List.set_cons_zero, List.set_cons_succ])))
section
variable {w : World} {K : PySem.W.Frag} {mg : Str → Option Value} {base : Heap}

def sp_law (K : PySem.W.Frag) : Sp := sp1 fun x H Q _ => ∃ (a : Addr) (ns : List Int), x = .ref a ∧ SqL K H a (ns.map V.int) ∧ ns.length ≤ 63 ∧ ∀ H', Q (.bl true) H'
theorem Rg.empty {H : Hp} {a b c : Addr} (ha : H a = some (.lst [.ref b, .ref c])) (hb : H b = some (.lst [])) (hc : H c = some (.lst [.int 0])) : Rg 2 H (.ref a) :=
  ⟨([], [0]), ⟨a, b, c, rfl, ha, hb, hc⟩, Nat.zero_le _, (fun w hw => by cases hw), trivial, rfl, (fun p hp => by rw [List.mem_singleton.mp hp]; omega)⟩
theorem paired_at {α β : Type} {R : α → β → Prop} : ∀ {xs : List α} {ys : List β} {i : Nat} {x : α}, Paired R xs ys → xs[i]? = some x → ∃ y, ys[i]? = some y ∧ R x y
  | _, _, _, _, .nil, h => by cases h
  | _, _, 0, _, .cons a r, h => by cases h; exact ⟨_, rfl, a⟩
  | _, _, i + 1, _, .cons a r, h => paired_at (i := i) r h
theorem law_ok (T : Txt w K mg) {fd : FuncData} (F : Fn_law K fd) (c_law_purse : CalX P w K mg base CX0 1 "_law_purse" (sp_law_purse K)) (c_law_take : CalX P w K mg base CX0 2 "_law_take" sp_law_take) (c_law_build : CalX P w K mg base CX0 6 "_law_build" sp_law_build) (c_law_edit : CalX P w K mg base CX0 5 "_law_edit" sp_law_edit) (c_law_stretched : CalX P w K mg base CX0 3 "_law_stretched" sp_law_stretched) (c_law_judge : CalX P w K mg base CX0 3 "_law_judge" sp_law_judge) (c_law_text_of : CalX P w K mg base CX0 1 "_law_text_of" sp_law_text_of) (c_parse_book : CalX P w K mg base (L2.CX P w) 4 "parse_book" (sp_parse_book K)) (c_law_same : CalS P w K mg base CX0 1 "_law_same" sp_law_sameI) (c_law_right : CalX P w K mg base CX0 8 "_law_right" (sp_law_right K)) : FnOk P w K mg base CX0 9 (He.ga K "law") fd ["script"] (sp_law K) := by
  refine F.ok sc_law (fun _ _ _ _ h => sp1_len h) (fun cdv A outer s H vs Q E hr h => ?_)
  obtain ⟨x0, rfl, h⟩ := h
  refine ⟨_, PSs.nox (pss_cons (ps_set (i := 1) sc_law.nd rfl (Or.inl rfl) (pe_cx c_law_purse hr (by decide) rfl pass0 (pa_cons (pv 0) pa_nil)))
    (pss_cons (ps_set (i := 2) sc_law.nd rfl (Or.inl rfl) (pe_ix ix_list (pe_lst (pa_cons pe_int (pa_cons pe_int (pa_cons pe_int (pa_cons pe_int pa_nil))))) (pe_cx c_law_take hr (by decide) rfl pass0 (pa_cons (pv 1) (pa_cons pe_int pa_nil))) (fun _ _ => rfl)))
    (pss_cons (ps_set (i := 3) sc_law.nd rfl (Or.inl rfl) (pe_cmpR op_eq (pe_cx c_law_take hr (by decide) rfl pass0 (pa_cons (pv 1) (pa_cons pe_int pa_nil))) pe_int (nomark _)))
    (pss_cons (ps_set (i := 4) sc_law.nd rfl (Or.inl rfl) (pe_cmpR op_eq (pe_cx c_law_take hr (by decide) rfl pass0 (pa_cons (pv 1) (pa_cons pe_int pa_nil))) pe_int (nomark _)))
    (pss_cons (ps_set (i := 5) sc_law.nd rfl (Or.inl rfl) (pe_cx c_law_build hr (by decide) rfl pass0 (pa_cons (pv 1) pa_nil)))
    (pss_cons (ps_for PassesOwn.never rfl (pi_range1 (by rfl) T.f_range (pa_cons (pv 2) pa_nil)) (pg_name (i := 6) sc_law.nd rfl (Or.inl rfl))
    (pss_cons (ps_set (i := 5) sc_law.nd rfl (Or.inl rfl) (pe_cx c_law_edit hr (by decide) rfl pass0 (pa_cons (pv 1) (pa_cons (pv 5) pa_nil))))
    (pss_one (ps_if (pt_cmpR (op_eqD hr.units) (pv 5) (pe_lst pa_nil) (nomark _))
    (pss_one (ps_set (i := 5) sc_law.nd rfl (Or.inl rfl) (pe_lst (pa_cons (pe_lst (pa_cons (pe_lst pa_nil) (pa_cons (pe_lst (pa_cons pe_int pa_nil)) pa_nil))) pa_nil))))
    pss_nil))))
    (Evl.pss_cut (ps_if (pt_val (pv 3))
    (pss_cons (ps_set (i := 7) sc_law.nd rfl (Or.inl rfl) (pe_op op_addI pe_int (pe_cx c_law_take hr (by decide) rfl pass0 (pa_cons (pv 1) (pa_cons pe_int pa_nil)))))
    (pss_cons (ps_set (i := 8) sc_law.nd rfl (Or.inl rfl) (pe_cx c_law_take hr (by decide) rfl pass0 (pa_cons (pv 1) (pa_cons (pe_op op_addI (pe_callB call_lenQ (by rfl) T.f_len PySem.boot_len (pa_cons (pv 5) pa_nil)) pe_int) pa_nil))))
    (pss_cons (ps_set (i := 9) sc_law.nd rfl (Or.inl rfl) (pe_ix ix_list (pe_lst (pa_cons (pe_lst pa_nil) (pa_cons (pe_lst (pa_cons pe_str (pa_cons pe_str pa_nil))) (pa_cons (pe_lst (pa_cons pe_str (pa_cons pe_str pa_nil))) (pa_cons (pe_lst (pa_cons pe_str pa_nil)) pa_nil))))) (pe_cx c_law_take hr (by decide) rfl pass0 (pa_cons (pv 1) (pa_cons pe_int pa_nil))) (fun _ _ => rfl)))
    (pss_cons (ps_set (i := 10) sc_law.nd rfl (Or.inl rfl) (pe_lst (pa_cons (pe_lst (pa_cons (pv 9) (pa_cons (pe_op op_cat (pe_lst (pa_cons pe_int pa_nil)) (pe_lc (own := [("word", 15)]) (g := gName 15) (tt := tYes) (by rfl) sc_law.nd (pi_list (pv 9)) (blkOk_by (own := [("word", 15)]) (N := ["script", "purse", "edits", "is_long", "is_wide", "page", "k", "size", "place", "words", "more", "at", "due", "told", "e", "word", "row"]) (sc := defScope s_law) (by decide +kernel)) (fun _ _ _ _ _ => pg_name (i := 15) sc_law.nd rfl (Or.inl rfl)) (fun _ _ _ _ _ => pts_nil) (fun _ _ _ _ _ => pe_int))) pa_nil))) pa_nil)))
    (pss_one (ps_set (i := 5) sc_law.nd rfl (Or.inl rfl) (pe_op op_cat (pe_op op_cat (pe_slice sl_list (pv 5) po_none (po_some (pv 8))) (pe_op op_rep (pv 10) (pe_op op_subI (pv 7) (pe_callB call_lenQ (by rfl) T.f_len PySem.boot_len (pa_cons (pv 5) pa_nil))))) (pe_slice sl_list (pv 5) (po_some (pv 8)) po_none))))))))
    pss_nil)
    (Evl.pss_cut (ps_if (pt_val (pv 4))
    (pss_cons (ps_set (i := 11) sc_law.nd rfl (Or.inl rfl) (pe_cx c_law_take hr (by decide) rfl pass0 (pa_cons (pv 1) (pa_cons (pe_callB call_lenQ (by rfl) T.f_len PySem.boot_len (pa_cons (pv 5) pa_nil)) pa_nil))))
    (pss_one (ps_set (i := 5) sc_law.nd rfl (Or.inl rfl) (pe_op op_cat (pe_op op_cat (pe_slice sl_list (pv 5) po_none (po_some (pv 11))) (pe_lst (pa_cons (pe_cx c_law_stretched hr (by decide) rfl pass0 (pa_cons (pv 1) (pa_cons (pe_ix ix_list (pv 5) (pv 11) (fun _ _ => rfl)) pa_nil))) pa_nil))) (pe_slice sl_list (pv 5) (po_some (pe_op op_addI (pv 11) pe_int)) po_none)))))
    pss_nil)
    (pss_cons (ps_set (i := 12) sc_law.nd rfl (Or.inl rfl) (pe_cx c_law_judge hr (by decide) rfl pass0 (pa_cons (pv 5) pa_nil)))
    (pss_cons (ps_try_manyA rfl rfl takes0 (fun W pn xe tk _ => (pss_one (ps_set (i := 13) sc_law.nd rfl (Or.inl rfl) (pe_cxS c_parse_book hr (by decide) rfl (fun σ => passAt tk σ) (by exact (pa_cons (te := tBM K "str" (rJoinS K) (tC (.str _)) (tCons _ tNil)) (pe_bm PySem.F.plainAttrs_str PySem.F.slot_str_join PySem.F.type_str_join mt_joinS pe_str (pa_cons (pe_lc (wi := iList K (tVar 5)) (own := [("row", 16)]) (g := gName 16) (tt := tYes) (by rfl) sc_law.nd (pi_list (pv 5)) (blkOk_by (own := [("row", 16)]) (N := ["script", "purse", "edits", "is_long", "is_wide", "page", "k", "size", "place", "words", "more", "at", "due", "told", "e", "word", "row"]) (sc := defScope s_law) (by decide +kernel)) (fun _ _ _ _ _ => pg_name (i := 16) sc_law.nd rfl (Or.inl rfl)) (fun _ _ _ _ _ => pts_nil) (fun _ _ _ _ _ => (pe_cx c_law_text_of hr (by decide) rfl pass0 (pa_cons (pv 16) pa_nil)))) pa_nil)) pa_nil))))))
    (HdsA.as_ (i := 14) sc_law.nd rfl rfl ⟨rfl, by decide, .inl T.g_BadBook⟩ (fun a oe cls d pn hz hf => by exact (pss_cons (ps_if (PW.pt (pw_or (pt_cmpR op_eq (pe_ix (r := rIxL K) ix_list (pv 12) pe_int (fun _ _ => rfl)) pe_int (nomark _)) (pw_or (pt_not (pt_val (pe_cs (j := 8) c_law_same ⟨hr.dp, hr.un⟩ (by decide) rfl pass0 (pa_cons (pe_xf ⟨T.e_BadBook.hg, T.e_BadBook.hk, T.e_BadBook.hs, T.e_BadBook.hd⟩ T.n_BadBook hz hf (pv 14)) (pa_cons (pe_ix (r := rIxL K) ix_list (pv 12) pe_int (fun _ _ => rfl)) pa_nil))))) (pw_or1 (pt_not (pt_val (pe_callB (call_isEd hz hf) (by rfl) T.f_isinstance (by decide +kernel) (pa_cons (pv 14) (pa_cons (pe_gv T.v_HallError) pa_nil)))))))))
    (pss_one (ps_ret pe_bl))
    pss_nil)
    (pss_cons (ps_if (pt_val (pe_callB (call_isEdT hz hf) (by rfl) T.f_isinstance (by decide +kernel) (pa_cons (pv 14) (pa_cons (pe_tup (pa_cons (pe_gv T.v_BadSave) (pa_cons (pe_gv T.v_InvalidText) (pa_cons (pe_gv T.v_TooLarge) (pa_cons (pe_gv T.v_UnknownBook) pa_nil))))) pa_nil))))
    (pss_one (ps_ret pe_bl))
    pss_nil)
    (pss_one (ps_ret (pe_callB (call_isEd hz hf) (by rfl) T.f_isinstance (by decide +kernel) (pa_cons (pv 14) (pa_cons (pe_bltn (v := .ty "ValueError") (by rfl) T.f_ValueError (by decide +kernel) rfl) pa_nil)))))))) HdsA.nil))
    (pss_one (ps_ret (pe_and (pe_cmpR op_eq (pe_ix ix_list (pv 12) pe_int (fun _ _ => rfl)) pe_int (nomark _)) (pe_one (pe_cx c_law_right hr (by decide) rfl pass0 (pa_cons (pv 13) (pa_cons (pv 12) pa_nil))))))))))))))))), ?_⟩
  rw [show start ["script", "purse", "edits", "is_long", "is_wide", "page", "k", "size", "place", "words", "more", "at", "due", "told", "e", "word", "row"] [x0] = [some x0, none, none, none, none, none, none, none, none, none, none, none, none, none, none, none, none] from rfl]
  have ec0 : Str.ofString "#" = S [35] := S_ofs (by decide +kernel)
  have ec1 : Str.ofString "a" = S [97] := S_ofs (by decide +kernel)
  have ec2 : Str.ofString "base" = S [98,97,115,101] := S_ofs (by decide +kernel)
  have ec3 : Str.ofString "split" = S [115,112,108,105,116] := S_ofs (by decide +kernel)
  have ec4 : Str.ofString "\n" = S [10] := S_ofs (by decide +kernel)
  rw [ec0, ec1, ec2, ec3, ec4]
  obtain ⟨a, ns, rfl, hS, hn, hQ⟩ := h
  try dsimp only [cxOf]
  walk_at "w"
  refine ⟨_, rfl, a, ns, rfl, hS, hn, fun pp cc H1 P1 => ?_⟩
  walk_at "w"
  refine n_L (fun p2 H2 hp2 s2 e2 => ?_)
  walk_at "w"
  refine ⟨_, _, rfl, pp, cc, 0, 4, rfl, rfl, by omega, by omega, P1.same s2, by decide, fun u H3 hu P3 k3 => ?_⟩
  obtain ⟨ed, hed1, hed2⟩ : ∃ ed : Nat, (Is [0, 1, 1, 2])[u]? = some (.int (ed : Int)) ∧ ed ≤ 2 := by
    have hu' : u < 4 := by omega
    match u, hu' with
    | 0, _ => exact ⟨0, rfl, by omega⟩
    | 1, _ => exact ⟨1, rfl, by omega⟩
    | 2, _ => exact ⟨1, rfl, by omega⟩
    | 3, _ => exact ⟨2, rfl, by omega⟩
  refine w_ixL (SqL.of (k3.1 _ _ (nip_is [0, 1, 1, 2]) e2)) hed1 ?_
  walk_at "w"
  have hLIM : (100000 : Nat) ≤ LIM := by decide
  refine ⟨_, _, rfl, pp, cc, _, 12, rfl, rfl, by omega, by omega, P3, by omega, fun u4 H4 hu4 P4 k4 => ?_⟩
  walk_at "w"
  refine ⟨_, _, rfl, pp, cc, _, 6, rfl, rfl, by omega, by omega, P4, by omega, fun u5 H5 hu5 P5 k5 => ?_⟩
  walk_at "w"
  generalize decide ((u4 : Int) = 5) = il
  generalize decide ((u5 : Int) = 2) = iw
  refine ⟨_, rfl, pp, cc, _, rfl, P5, by omega, fun pg0 H6 xs6 e6 R6 l6 l6' P6 k6 => ?_⟩
  walk_at "w"
  refine w_rg1 (by omega) (by omega) ?_
  refine for_range (fun i σ H' => ∃ (q : Addr) (xs : List V) (v6 : Option V), σ = [some (.ref a), some (.ref pp), some (.int (ed : Int)), some (.bl il), some (.bl iw), some (.ref q), v6, none, none, none, none, none, none, none, none, none, none] ∧ H' q = some (.lst xs) ∧ RA (8 + i) H' xs ∧ 1 ≤ xs.length ∧ xs.length ≤ 100 + i ∧ Pu pp cc (6003 + 60 * i) H')
    ⟨_, _, _, rfl, e6, R6, l6', l6, P6.mono (by omega)⟩ ?_ ?_
  · rintro i σ H' hi ⟨q, xs, v6, rfl, q1, q2, q3, q4, q5⟩
    have hi : i < 2 := by omega
    dsimp only [gName]
    walk_at "w"
    refine ⟨_, _, rfl, pp, cc, q, _, 8 + i, xs, rfl, rfl, q1, q2, by omega, by omega, q3, by omega, q5, by omega, fun v7 H7 ys e7 R7 l7 P7 k7 => ?_⟩
    walk_at "w"
    refine n_L (fun p8 H8 hp8 s8 e8 => ?_)
    refine w_eqPage (s8 _ _ e7) (R7.same s8) e8 ?_
    walk_at "w"
    refine w_dec (fun h1 => ?_) (fun h1 => ?_)
    · walk_at "w"
      refine n_L (fun p9 H9 hp9 s9 e9 => ?_)
      walk_at "w"
      refine n_L (fun p10 H10 hp10 s10 e10 => ?_)
      walk_at "w"
      refine n_L (fun p11 H11 hp11 s11 e11 => ?_)
      walk_at "w"
      refine n_L (fun p12 H12 hp12 s12 e12 => ?_)
      walk_at "w"
      exact ⟨_, _, _, rfl, e12, RA.one (((Rg.empty e11 (s11 _ _ (s10 _ _ e9)) (s11 _ _ e10)).same s12).mono (by omega)), Nat.le_refl _, by show 1 ≤ _; omega, ((((((P7.same s8).same s9).same s10).same s11).same s12)).mono (by omega)⟩
    · walk_at "w"
      have : 1 ≤ ys.length := by
        cases ys with
        | nil => exact absurd rfl h1
        | cons a b => simp
      exact ⟨_, _, _, rfl, s8 _ _ e7, (R7.same s8).mono (by omega), this, by omega, (P7.same s8).mono (by omega)⟩
  rintro σ H7 ⟨q, xs, v6, rfl, q1, q2, q3, q4, q5⟩
  walk_at "w"
  refine w_mid (fun σ H' => ∃ (q : Addr) (xs : List V) (v6 v7 v8 v9 v10 : Option V), σ = [some (.ref a), some (.ref pp), some (.int (ed : Int)), some (.bl il), some (.bl iw), some (.ref q), v6, v7, v8, v9, v10, none, none, none, none, none, none] ∧ H' q = some (.lst xs) ∧ RA 10 H' xs ∧ 1 ≤ xs.length ∧ xs.length ≤ 402 ∧ Pu pp cc 7000 H') ?_ ?_
  · walk_at "w"
    refine w_b (fun h1 => ?_) (fun h1 => ?_)
    rotate_left
    · walk_at "w"
      exact ⟨_, _, _, _, _, _, _, rfl, q1, q2.mono (by omega), q3, by omega, q5.mono (by omega)⟩
    have n0 := nip_refs q2.refs
    walk_at "w"
    refine ⟨_, _, rfl, pp, cc, _, 3, rfl, rfl, by omega, by omega, q5, by omega, fun u7 G1 hu7 P1 k1 => ?_⟩
    walk_at "w"
    have g1 := k1.1 _ _ n0 q1
    refine w_lenL (SqL.of g1) ?_
    walk_at "w"
    refine ⟨_, _, rfl, pp, cc, _, xs.length + 1, rfl, rfl, by omega, by omega, P1, by omega, fun pl G2 hpl P2 k2 => ?_⟩
    have g2 := k2.1 _ _ n0 g1
    have R2 := (q2.keep k1).keep k2
    walk_at "w"
    refine n_L (fun b1 F1 hb1 s1 e1 => ?_)
    walk_at "w"
    refine n_L (fun b2 F2 hb2 s2 e2 => ?_)
    walk_at "w"
    refine n_L (fun b3 F3 hb3 s3 e3 => ?_)
    walk_at "w"
    refine n_L (fun b4 F4 hb4 s4 e4 => ?_)
    walk_at "w"
    refine n_L (fun b5 F5 hb5 s5 e5 => ?_)
    have B1 := WA.snoc (m := 2) (WA.nil 2 G2) s1 e1 AW.nil (Nat.zero_le _)
    have B2 := WA.snoc B1 s2 e2 (AW.cons (l := [35]) (by decide) (AW.cons (l := [97]) (by decide) AW.nil)) (Nat.le_of_ble_eq_true rfl)
    have B3 := WA.snoc B2 s3 e3 (AW.cons (l := [98,97,115,101]) (by decide) (AW.cons (l := [97]) (by decide) AW.nil)) (Nat.le_of_ble_eq_true rfl)
    have B4 := WA.snoc B3 s4 e4 (AW.cons (l := [115,112,108,105,116]) (by decide) AW.nil) (Nat.le_of_ble_eq_true rfl)
    have B5 := B4.same s5
    have s15 := (((s1.tr s2).tr s3).tr s4).tr s5
    walk_at "w"
    refine ⟨_, _, rfl, pp, cc, _, 4, rfl, rfl, by omega, by omega, P2.same s15, by omega, fun z G3 hz P3 k3 => ?_⟩
    obtain ⟨l, hl, b0, ws, rfl, hw1, hw2, hw3⟩ := B5.get (i := z) (show z < 4 by omega)
    refine w_ixL (SqL.of (k3.1 _ _ (nip_refs B5.refs) e5)) hl ?_
    have g3 := k3.1 _ _ n0 (s15 _ _ g2)
    have R3 := (R2.same s15).keep k3
    have hw4 := k3.1 _ _ (nip_ws ws) hw1
    walk_at "w"
    refine n_L (fun c1 E1 hc1 t1 d1 => ?_)
    walk_at "w"
    refine w_lstI (SqL.of (t1 _ _ hw4)) ?_
    intro D hD
    refine lc_const (SqL.of (t1 _ _ hw4)) hD (by rw [ws_len]; omega) (fun E2 t2 d2 => ?_)
    refine n_cat (t2 _ _ d1) d2 (by rw [List.length_replicate, ws_len]; show 1 + _ ≤ 100000; omega) (fun c3 E3 hc3 t3 d3 => ?_)
    have t13 := (t1.tr t2).tr t3
    have d3' : E3 c3 = some (.lst (Is ([0] ++ List.replicate ws.length 1))) := by
      rw [d3, ws_len, ← Is_app, ← Is_rep]; rfl
    walk_at "w"
    refine n_L (fun c4 E4 hc4 t4 d4 => ?_)
    have rg4 : Rg 2 E4 (.ref c4) := ⟨(ws, [0] ++ List.replicate ws.length 1), ⟨c4, b0, c3, rfl, d4, t4 _ _ (t13 _ _ hw4), t4 _ _ d3'⟩, hw2, hw3, pad_of _ _ (by simp) (fun j p hj hp => by
      have hp : (List.replicate ws.length 1)[j]? = some p := hp
      rw [List.getElem?_replicate] at hp
      split at hp
      · cases hp; exact Nat.le_refl _
      · cases hp), by simp, fun p hp => by
      simp only [List.mem_append, List.mem_singleton, List.mem_replicate] at hp; omega⟩
    walk_at "w"
    refine n_L (fun c5 E5 hc5 t5 d5 => ?_)
    have t15 := (t13.tr t4).tr t5
    have g5 := t15 _ _ g3
    walk_at "w"
    refine n_to (SqL.of g5) (fun c6 E6 hc6 t6 d6 => ?_)
    walk_at "w"
    refine w_lenL (SqL.of (t6 _ _ g5)) ?_
    walk_at "w"
    obtain ⟨n, hn⟩ : ∃ n : Nat, n = 400 + u7 - xs.length := ⟨_, rfl⟩
    rw [show (400 : Int) + (u7 : Int) - (xs.length : Int) = ((n : Nat) : Int) by omega]
    refine n_rep (t6 _ _ d5) (show 1 * n ≤ 100000 by omega) (by omega) (fun c7 E7 hc7 t7 d7 => ?_)
    have hfl : (List.replicate n [V.ref c4]).flatten.length = n := by simp
    refine n_cat (t7 _ _ d6) d7 (by rw [hfl, List.length_take]; omega) (fun c8 E8 hc8 t8 d8 => ?_)
    have t68 := (t6.tr t7).tr t8
    walk_at "w"
    refine n_from (SqL.of (t68 _ _ g5)) (fun c9 E9 hc9 t9 d9 => ?_)
    refine n_cat (t9 _ _ d8) d9 (by rw [List.length_append, hfl, List.length_take, List.length_drop]; omega) (fun ca EA hca ta da => ?_)
    have t6a := (t68.tr t9).tr ta
    have R5 : RA 10 EA xs := ((R3.same t15).same t6a).mono (by omega)
    have rg : RA 10 EA (List.replicate n [V.ref c4]).flatten := fun v hv => by
      have : v = .ref c4 := by
        obtain ⟨l, hl, hv⟩ := List.mem_flatten.mp hv
        rw [List.eq_of_mem_replicate hl] at hv
        exact List.mem_singleton.mp hv
      rw [this]
      exact ((rg4.same t5).same t6a).mono (by omega)
    walk_at "w"
    exact ⟨_, _, _, _, _, _, _, rfl, da, ((R5.take pl).append rg).append (R5.drop pl), by rw [List.length_append, List.length_append, hfl, List.length_take, List.length_drop]; omega, by rw [List.length_append, List.length_append, hfl, List.length_take, List.length_drop]; omega, ((P3.same t15).same t6a).mono (by omega)⟩
  clear q1 q2 q3 q4 q5 q v6 xs
  rintro σ H8 ⟨q, xs, v6, v7, v8, v9, v10, rfl, q1, q2, q3, q4, q5⟩
  walk_at "w"
  refine w_mid (fun σ H' => ∃ (q : Addr) (xs : List V) (v6 v7 v8 v9 v10 v11 : Option V), σ = [some (.ref a), some (.ref pp), some (.int (ed : Int)), some (.bl il), some (.bl iw), some (.ref q), v6, v7, v8, v9, v10, v11, none, none, none, none, none] ∧ H' q = some (.lst xs) ∧ RsA H' xs ∧ 1 ≤ xs.length ∧ xs.length ≤ 402) ?_ ?_
  · walk_at "w"
    refine w_b (fun h1 => ?_) (fun h1 => ?_)
    rotate_left
    · walk_at "w"
      exact ⟨_, _, _, _, _, _, _, _, rfl, q1, q2.rs (by omega), q3, q4⟩
    have n0 := nip_refs q2.refs
    walk_at "w"
    refine w_lenL (SqL.of q1) ?_
    walk_at "w"
    refine ⟨_, _, rfl, pp, cc, _, xs.length, rfl, rfl, by omega, by omega, q5, by omega, fun at_ G1 hat P1 k1 => ?_⟩
    walk_at "w"
    have g1 := k1.1 _ _ n0 q1
    have R1 := q2.keep k1
    refine n_to (SqL.of g1) (fun c1 E1 hc1 t1 d1 => ?_)
    walk_at "w"
    refine w_ixL (SqL.of (t1 _ _ g1)) (List.getElem?_eq_getElem hat) ?_
    walk_at "w"
    refine ⟨_, _, rfl, pp, cc, _, 10, rfl, (R1 _ (List.getElem_mem hat)).same t1, by omega, P1.same t1, by omega, fun y E2 hy P2 k2 => ?_⟩
    walk_at "w"
    refine n_L (fun c3 E3 hc3 t3 d3 => ?_)
    have R2 := (R1.same t1).keep k2
    refine n_cat (t3 _ _ (k2.1 _ _ (nip_refs (R1.take at_).refs) d1)) d3 (by rw [List.length_take]; show _ + 1 ≤ 100000; omega) (fun c4 E4 hc4 t4 d4 => ?_)
    walk_at "w"
    rw [show (at_ : Int) + 1 = ((at_ + 1 : Nat) : Int) by omega]
    have t34 := t3.tr t4
    refine n_from (SqL.of (t34 _ _ (k2.1 _ _ n0 (t1 _ _ g1)))) (fun c5 E5 hc5 t5 d5 => ?_)
    refine n_cat (t5 _ _ d4) d5 (by rw [List.length_append, List.length_take, List.length_drop]; show _ + 1 + _ ≤ 100000; omega) (fun c6 E6 hc6 t6 d6 => ?_)
    have t36 := (t34.tr t5).tr t6
    have R6 := R2.same t36
    walk_at "w"
    refine ⟨_, _, _, _, _, _, _, _, rfl, d6, fun v hv => ?_, by rw [List.length_append, List.length_append, List.length_take, List.length_drop]; show 1 ≤ _ + 1 + _; omega, by rw [List.length_append, List.length_append, List.length_take, List.length_drop]; show _ + 1 + _ ≤ _; omega⟩
    rcases List.mem_append.mp hv with hv | hv
    · rcases List.mem_append.mp hv with hv | hv
      · exact (R6.take at_).rs (by omega) v hv
      · rw [List.mem_singleton.mp hv]; exact hy.same t36
    · exact (R6.drop (at_ + 1)).rs (by omega) v hv
  clear q1 q2 q3 q4 q5 q v6 v7 v8 v9 v10 xs
  rintro σ H9 ⟨q, xs, v6, v7, v8, v9, v10, v11, rfl, q1, q2, q3, q4⟩
  obtain ⟨p, hp1, hp2⟩ := rows_of q2
  have hpl := paired_len hp1
  walk_at "w"
  refine ⟨_, rfl, p, ⟨q, xs, rfl, q1, hp1, by omega, hp2⟩, fun du H10 s10 hres => ?_⟩
  walk_at "w"
  have hlenp : p.length ≤ 402 := by omega
  have hne : p ≠ [] := fun z => by rw [z] at hpl; exact absurd hpl (by show ¬ xs.length = 0; omega)
  have hall : ∀ l ∈ p.map textOf, l.length ≤ 10000 := fun l hl => by
    obtain ⟨r, hr, rfl⟩ := List.mem_map.mp hl
    exact (hp2 r hr).2.2.2
  have hsum := sum_bound (p.map textOf) 10000 hall
  rw [List.length_map] at hsum
  have hjl := joinL_len (p.map textOf)
  rw [List.length_map] at hjl
  refine w_lstI (SqL.of (s10 _ _ q1)) ?_
  intro D hD
  refine lc_list (xs := xs) (fun j H' => Same H10 H' ∧ H' D = some (.lst (((p.take j).map textOf).map fun r => V.str (S r)))) ⟨same_upd hD, upd_same⟩ (fun j H' _ h => SqL.of (h.1 _ _ (s10 _ _ q1))) ?_ ?_
  · rintro j x H' hx ⟨sm, hd⟩
    obtain ⟨r, hr, hv⟩ := paired_at hp1 hx
    have hj : j < p.length := (List.getElem?_eq_some_iff.mp hr).1
    dsimp only [gName]
    refine ⟨rfl, ?_⟩
    walk_at "w"
    refine ⟨_, rfl, r, (hv.same s10).same sm, (hp2 r (List.mem_of_getElem? hr)).2, ?_⟩
    refine ⟨_, hd, szl (show _ ≤ 1000 by rw [List.length_map, List.length_map, List.length_take]; omega), fun b o e => by rw [upd_ne (ne_of_none e hD)]; exact sm b o e, ?_⟩
    rw [upd_same, List.take_add_one, hr, Option.toList_some, List.map_append, List.map_append]; rfl
  rintro H11 ⟨s11, hd⟩
  rw [List.take_of_length_le (by omega)] at hd
  walk_at "w"
  refine w_join (l := p.map textOf) (c := 10) (SqL.of hd) (by rw [List.length_map]; show (List.map List.length (List.map textOf p)).sum + p.length ≤ _; omega) ?_
  walk_at "w"
  refine ⟨_, rfl, p, rfl, ⟨by omega, hp2⟩, hne, by omega, fun m hm d H12 s12 hd12 => ?_, fun own leans items hok v a1 a2 vs H12 s12 g1 g2 g3 g4 => ?_⟩
  · rw [hm] at hres
    have hm1 := rdp_pos _ _ _ hm
    have hdu := s12 _ _ (s11 _ _ hres)
    refine ⟨true, T.x_BadBook_BadBook, fun _ ea hea => ?_, fun z => by cases z⟩
    dsimp only [endsAs]
    walk_at "w"
    refine w_ixL (n := 0) (SqL.of hdu) rfl ?_
    walk_at "w"
    rw [decide_eq_false (show ¬ (m : Int) = 0 by omega)]
    walk_at "w"
    refine ⟨_, rfl, rfl, rfl, d, _, _, rfl, hd12, rfl, ?_⟩
    walk_at "w"
    refine w_ixL (n := 0) (SqL.of hdu) rfl ?_
    walk_at "w"
    refine ⟨_, _, rfl, (m : Int), rfl, rfl, ?_⟩
    walk_at "w"
    refine ⟨_, _, true, _, d, _, rfl, rfl, T.e_BadBook, rfl, hd12, fun u z => z, T.k_BadBook_HallError, ?_⟩
    walk_at "w"
    refine n_T (fun p13 H13 hp13 s13 e13 => ?_)
    refine ⟨p13, _, _, false, _, d, _, rfl, e13, .cons (.own _) (.cons (.own _) (.cons (.own _) (.cons (.own _) .nil))), rfl, T.e_BadBook, rfl, s13 _ _ hd12, ?_, ?_⟩
    · exact kitAny_cons T.k_BadBook_BadSave (fun _ => kitAny_cons T.k_BadBook_InvalidText (fun _ => kitAny_cons T.k_BadBook_TooLarge (fun _ => kitAny_cons T.k_BadBook_UnknownBook (fun _ => kitAny_nil) (fun z => by cases z)) (fun z => by cases z)) (fun z => by cases z)) (fun z => by cases z)
    walk_at "w"
    refine ⟨_, _, true, _, d, _, rfl, rfl, T.e_BadBook, rfl, s13 _ _ hd12, fun u z => z, T.k_BadBook_ValueError, ?_⟩
    exact hQ _
  · rw [hok] at hres
    obtain ⟨b1, b2, us, r1, r2, r3, r4⟩ := hres
    walk_at "w"
    have hdu := s12 _ _ (s11 _ _ r1)
    refine w_ixL (n := 0) (SqL.of hdu) rfl ?_
    walk_at "w"
    rw [decide_eq_true rfl]
    walk_at "w"
    obtain ⟨o1, o2, o3⟩ := rdp_ok p 0 .title (fun r hr => (hp2 r hr).2.2.1) trivial hok
    refine ⟨_, _, rfl, v, du, a1, a2, b1, b2, own, leans, items, vs, us, rfl, rfl, g1, g2, g3, g4, hdu, s12 _ _ (s11 _ _ r2), s12 _ _ (s11 _ _ r3), pitem_tm (tm_same (s11.tr s12)) r4, by omega, by omega, fun it hit s e hs => Nat.le_trans (o3 it hit s e hs) (by omega), fun H13 s13 => ?_⟩
    exact hQ _
end
end K36

namespace K36
open PySem PySem.Spec PyProof.Rows L2 SX
local macro_rules | `(tactic| walk_at "w1") => `(tactic| (first
  | with_reducible refine w_seq ?_ | with_reducible refine w_asgN ?_ | with_reducible refine w_c ?_
  | ((with_reducible refine' w_var ?wv ?_); (case wv => exact rfl))
  | with_reducible refine w_op ?_ | with_reducible refine w_un ?_ | with_reducible refine w_next ?_ | with_reducible refine w_brk ?_ | with_reducible refine w_cnt ?_
  | with_reducible refine w_ifS ?_ | with_reducible refine w_if ?_ | with_reducible refine w_test ?_ | with_reducible refine w_tB ?_ | with_reducible refine w_bl ?_ | with_reducible refine w_blI ?_
  | with_reducible refine w_and ?_ | with_reducible refine w_or ?_ | with_reducible refine w_not ?_ | with_reducible refine w_andV ?_ | with_reducible refine w_orV ?_ | with_reducible refine w_notV ?_
  | with_reducible refine w_nil ?_ | with_reducible refine w_cons ?_ | with_reducible refine w_cb ?_ | with_reducible refine w_call ?_ | with_reducible refine w_callS ?_ | with_reducible refine w_chain ?_
  | with_reducible refine w_tupN ?_ | with_reducible refine w_lstN ?_ | with_reducible refine w_sl ?_ | with_reducible refine w_noPart ?_ | with_reducible refine w_part ?_ | with_reducible refine w_partI ?_
  | with_reducible refine w_ret ?_ | with_reducible refine w_retN ?_ | with_reducible refine w_drop ?_ | with_reducible refine w_asg ?_ | with_reducible refine w_gSub ?_
  | ((with_reducible refine' w_aug ?wv ?_); (case wv => exact rfl)) | with_reducible refine w_ipI ?_
  | with_reducible refine w_addI ?_ | with_reducible refine w_subI ?_ | with_reducible refine w_ltI ?_ | with_reducible refine w_leI ?_ | with_reducible refine w_gtI ?_ | with_reducible refine w_geI ?_
  | with_reducible refine w_eqI ?_ | with_reducible refine w_neI ?_ | with_reducible refine w_eqT ?_ | with_reducible refine w_neT ?_ | with_reducible refine w_inS ?_ | with_reducible refine w_ninS ?_
  | with_reducible refine w_absI ?_ | with_reducible refine w_intI ?_ | with_reducible refine w_maxI ?_ | with_reducible refine w_minI ?_
  | with_reducible refine w_for ?_ | with_reducible refine w_iR1 ?_ | with_reducible refine w_iR2 ?_ | with_reducible refine w_iStr ?_ | with_reducible refine w_strI ?_ | with_reducible refine w_iList ?_ | with_reducible refine w_iTup ?_
  | with_reducible refine w_bm ?_ | with_reducible refine w_bm0 ?_ | with_reducible refine w_t ?_ | with_reducible refine w_f ?_ | with_reducible refine w_nt ?_ | with_reducible refine w_nx ?_ | with_reducible refine w_rt ?_ | with_reducible refine w_bk ?_ | with_reducible refine w_ct ?_ | with_reducible refine w_nf ?_ | with_reducible refine w_lc ?_ | with_reducible refine w_yes ?_ | with_reducible refine w_neg ?_ | with_reducible refine w_intB ?_ | with_reducible refine w_fld ?_ | with_reducible refine w_setf ?_ | with_reducible refine w_faug ?_ | with_reducible refine w_meth ?_ | with_reducible refine w_bmS ?_ | with_reducible refine w_start ?_))
local macro_rules | `(tactic| walk_at "w") => `(tactic| (repeat (first | walk_at "w1" | dsimp (config := { proj := false }) only [List.set_cons_zero, List.set_cons_succ])))
section
variable {w : World} {K : PySem.W.Frag} {mg : Str → Option Value} {base : Heap}
end
theorem facts {w : World} {K : PySem.W.Frag} {h : Heap} {mg : Str → Option Value} {f : Addr} (X : K.In h) (G : h.Ns mainGlobals mg) (hfa : mg ("law" : Str) = some (.ref f)) (c : HallHt.SaysH fa fn hs ex ts w K) :
    ∃ fd : FuncData, (∀ (s : Shared) (v : Value), BindsTo s fd ⟨[v], []⟩ [("script", v)]) ∧ ∀ base : Heap, K.In base → base.Ns mainGlobals mg → FnOk P w K mg base CX0 9 f fd ["script"] (sp_law K) := by
  have T := txt_of X G c
  obtain ⟨fd_law_purse, F_law_purse⟩ := c.d.def_ 8 (d := dd "_law_purse" 26) rfl
  have m_law_purse := He.glo_ok X G (c.d.fact 8 (f := .glo "_law_purse") rfl)
  obtain ⟨fd_law_mixed, F_law_mixed⟩ := c.d.def_ 9 (d := dd "_law_mixed" 27) rfl
  have m_law_mixed := He.glo_ok X G (c.d.fact 9 (f := .glo "_law_mixed") rfl)
  obtain ⟨fd_law_take, F_law_take⟩ := c.d.def_ 10 (d := dd "_law_take" 28) rfl
  have m_law_take := He.glo_ok X G (c.d.fact 10 (f := .glo "_law_take") rfl)
  obtain ⟨fd_law_name, F_law_name⟩ := c.d.def_ 12 (d := dd "_law_name" 30) rfl
  have m_law_name := He.glo_ok X G (c.d.fact 12 (f := .glo "_law_name") rfl)
  obtain ⟨fd_law_row, F_law_row⟩ := c.d.def_ 14 (d := dd "_law_row" 32) rfl
  have m_law_row := He.glo_ok X G (c.d.fact 14 (f := .glo "_law_row") rfl)
  obtain ⟨fd_law_remarks, F_law_remarks⟩ := c.d.def_ 17 (d := dd "_law_remarks" 35) rfl
  have m_law_remarks := He.glo_ok X G (c.d.fact 17 (f := .glo "_law_remarks") rfl)
  obtain ⟨fd_law_body, F_law_body⟩ := c.d.def_ 18 (d := dd "_law_body" 36) rfl
  have m_law_body := He.glo_ok X G (c.d.fact 18 (f := .glo "_law_body") rfl)
  obtain ⟨fd_law_tactic, F_law_tactic⟩ := c.d.def_ 19 (d := dd "_law_tactic" 37) rfl
  have m_law_tactic := He.glo_ok X G (c.d.fact 19 (f := .glo "_law_tactic") rfl)
  obtain ⟨fd_law_item_rows, F_law_item_rows⟩ := c.d.def_ 20 (d := dd "_law_item_rows" 38) rfl
  have m_law_item_rows := He.glo_ok X G (c.d.fact 20 (f := .glo "_law_item_rows") rfl)
  obtain ⟨fd_law_build, F_law_build⟩ := c.d.def_ 21 (d := dd "_law_build" 39) rfl
  have m_law_build := He.glo_ok X G (c.d.fact 21 (f := .glo "_law_build") rfl)
  obtain ⟨fd_law_odd_word, F_law_odd_word⟩ := c.d.def_ 13 (d := dd "_law_odd_word" 31) rfl
  have m_law_odd_word := He.glo_ok X G (c.d.fact 13 (f := .glo "_law_odd_word") rfl)
  obtain ⟨fd_law_other_words, F_law_other_words⟩ := c.d.def_ 22 (d := dd "_law_other_words" 40) rfl
  have m_law_other_words := He.glo_ok X G (c.d.fact 22 (f := .glo "_law_other_words") rfl)
  obtain ⟨fd_law_edit, F_law_edit⟩ := c.d.def_ 23 (d := dd "_law_edit" 41) rfl
  have m_law_edit := He.glo_ok X G (c.d.fact 23 (f := .glo "_law_edit") rfl)
  obtain ⟨fd_law_text_of, F_law_text_of⟩ := c.d.def_ 15 (d := dd "_law_text_of" 33) rfl
  have m_law_text_of := He.glo_ok X G (c.d.fact 15 (f := .glo "_law_text_of") rfl)
  obtain ⟨fd_law_stretched, F_law_stretched⟩ := c.d.def_ 24 (d := dd "_law_stretched" 42) rfl
  have m_law_stretched := He.glo_ok X G (c.d.fact 24 (f := .glo "_law_stretched") rfl)
  obtain ⟨fd_law_is_name, F_law_is_name⟩ := c.d.def_ 11 (d := dd "_law_is_name" 29) rfl
  have m_law_is_name := He.glo_ok X G (c.d.fact 11 (f := .glo "_law_is_name") rfl)
  obtain ⟨fd_law_rest_of, F_law_rest_of⟩ := c.d.def_ 16 (d := dd "_law_rest_of" 34) rfl
  have m_law_rest_of := He.glo_ok X G (c.d.fact 16 (f := .glo "_law_rest_of") rfl)
  obtain ⟨fd_law_item, F_law_item⟩ := c.d.def_ 25 (d := dd "_law_item" 43) rfl
  have m_law_item := He.glo_ok X G (c.d.fact 25 (f := .glo "_law_item") rfl)
  obtain ⟨fd_law_leans_fit, F_law_leans_fit⟩ := c.d.def_ 26 (d := dd "_law_leans_fit" 44) rfl
  have m_law_leans_fit := He.glo_ok X G (c.d.fact 26 (f := .glo "_law_leans_fit") rfl)
  obtain ⟨fd_law_judge, F_law_judge⟩ := c.d.def_ 27 (d := dd "_law_judge" 45) rfl
  have m_law_judge := He.glo_ok X G (c.d.fact 27 (f := .glo "_law_judge") rfl)
  obtain ⟨fd_BookLines_init, F_BookLines_init⟩ := c.d.def_ 31 (d := ddm "BookLines" "__init__" "BookLines.__init__" 17 0) rfl
  obtain ⟨fd_BookLines_following, F_BookLines_following⟩ := c.d.def_ 32 (d := ddm "BookLines" "following" "BookLines.following" 17 1) rfl
  obtain ⟨fd_BookLines_beyond, F_BookLines_beyond⟩ := c.d.def_ 33 (d := ddm "BookLines" "beyond" "BookLines.beyond" 17 2) rfl
  obtain ⟨fd_words, F_words⟩ := c.d.def_ 1 (d := dd "_words" 18) rfl
  have m_words := He.glo_ok X G (c.d.fact 1 (f := .glo "_words") rfl)
  obtain ⟨fd_is_name, F_is_name⟩ := c.d.def_ 0 (d := dd "is_name" 12) rfl
  have m_is_name := He.glo_ok X G (c.d.fact 0 (f := .glo "is_name") rfl)
  obtain ⟨fd_read_title, F_read_title⟩ := c.d.def_ 3 (d := dd "_read_title" 20) rfl
  have m_read_title := He.glo_ok X G (c.d.fact 3 (f := .glo "_read_title") rfl)
  obtain ⟨fd_read_leans, F_read_leans⟩ := c.d.def_ 4 (d := dd "_read_leans" 21) rfl
  have m_read_leans := He.glo_ok X G (c.d.fact 4 (f := .glo "_read_leans") rfl)
  obtain ⟨fd_rest, F_rest⟩ := c.d.def_ 2 (d := dd "_rest" 19) rfl
  have m_rest := He.glo_ok X G (c.d.fact 2 (f := .glo "_rest") rfl)
  obtain ⟨fd_read_script, F_read_script⟩ := c.d.def_ 5 (d := dd "_read_script" 22) rfl
  have m_read_script := He.glo_ok X G (c.d.fact 5 (f := .glo "_read_script") rfl)
  obtain ⟨fd_read_item, F_read_item⟩ := c.d.def_ 6 (d := dd "_read_item" 23) rfl
  have m_read_item := He.glo_ok X G (c.d.fact 6 (f := .glo "_read_item") rfl)
  obtain ⟨fd_parse_book, F_parse_book⟩ := c.d.def_ 7 (d := dd "parse_book" 24) rfl
  have m_parse_book := He.glo_ok X G (c.d.fact 7 (f := .glo "parse_book") rfl)
  obtain ⟨fd_law_right, F_law_right⟩ := c.d.def_ 29 (d := dd "_law_right" 47) rfl
  have m_law_right := He.glo_ok X G (c.d.fact 29 (f := .glo "_law_right") rfl)
  obtain ⟨fd_law_same, F_law_same⟩ := c.d.def_ 28 (d := dd "_law_same" 46) rfl
  have m_law_same := He.glo_ok X G (c.d.fact 28 (f := .glo "_law_same") rfl)
  obtain ⟨fd_law, F_law⟩ := c.d.def_ 30 (d := dd "law" 48) rfl
  have m_law := He.glo_ok X G (c.d.fact 30 (f := .glo "law") rfl)
  have e := hfa.symm.trans m_law
  cases e
  have b := FunD.bindsA (ps := ["script"]) F_law fun _ _ _ _ _ _ us hl => match us, hl with | [_], _ => rfl
  refine ⟨fd_law, fun s v => b s [v] rfl, fun base _ _ => ?_⟩
  have H_c_law_purse := ok_law_purse (w := w) (base := base) T F_law_purse m_law_purse 
  have H_c_law_mixed := ok_law_mixed (w := w) (base := base) T F_law_mixed m_law_mixed 
  have H_c_law_take := ok_law_take (w := w) (base := base) T F_law_take m_law_take H_c_law_mixed
  have H_c_law_name := ok_law_name (w := w) (base := base) T F_law_name m_law_name H_c_law_take
  have H_c_law_row := ok_law_row (w := w) (base := base) T F_law_row m_law_row H_c_law_take
  have H_c_law_remarks := ok_law_remarks (w := w) (base := base) T F_law_remarks m_law_remarks H_c_law_take H_c_law_row
  have H_c_law_body := ok_law_body (w := w) (base := base) T F_law_body m_law_body H_c_law_take
  have H_c_law_tactic := ok_law_tactic (w := w) (base := base) T F_law_tactic m_law_tactic H_c_law_take
  have H_c_law_item_rows := ok_law_item_rows (w := w) (base := base) T F_law_item_rows m_law_item_rows H_c_law_take H_c_law_name H_c_law_row H_c_law_body H_c_law_remarks H_c_law_tactic
  have H_c_law_build := ok_law_build (w := w) (base := base) T F_law_build m_law_build H_c_law_take H_c_law_name H_c_law_row H_c_law_remarks H_c_law_item_rows
  have H_c_law_odd_word := ok_law_odd_word (w := w) (base := base) T F_law_odd_word m_law_odd_word H_c_law_take
  have H_c_law_other_words := ok_law_other_words (w := w) (base := base) T F_law_other_words m_law_other_words H_c_law_take H_c_law_name H_c_law_odd_word
  have H_c_law_edit := ok_law_edit (w := w) (base := base) T F_law_edit m_law_edit H_c_law_take H_c_law_row H_c_law_odd_word H_c_law_other_words
  have H_c_law_text_of := ok_law_text_of (w := w) (base := base) T F_law_text_of m_law_text_of 
  have H_c_law_stretched := ok_law_stretched (w := w) (base := base) T F_law_stretched m_law_stretched H_c_law_take H_c_law_text_of
  have H_c_law_is_name := ok_law_is_name (w := w) (base := base) T F_law_is_name m_law_is_name 
  have H_c_law_rest_of := ok_law_rest_of (w := w) (base := base) T F_law_rest_of m_law_rest_of 
  have H_c_law_item := ok_law_item (w := w) (base := base) T F_law_item m_law_item H_c_law_is_name H_c_law_rest_of
  have H_c_law_leans_fit := ok_law_leans_fit (w := w) (base := base) T F_law_leans_fit m_law_leans_fit H_c_law_is_name
  have H_c_law_judge := ok_law_judge (w := w) (base := base) T F_law_judge m_law_judge H_c_law_is_name H_c_law_rest_of H_c_law_text_of H_c_law_item H_c_law_leans_fit
  have H_mk_BookLines := ok_BookLines_init (w := w) (base := base) T F_BookLines_init  
  have H_m_BookLines_following := ok_BookLines_following (w := w) (base := base) T F_BookLines_following  
  have H_m_BookLines_beyond := ok_BookLines_beyond (w := w) (base := base) T F_BookLines_beyond  
  have H_c_words := ok_words (w := w) (base := base) T F_words m_words 
  have H_c_is_name := ok_is_name (w := w) (base := base) T F_is_name m_is_name 
  have H_c_read_title := ok_read_title (w := w) (base := base) T F_read_title m_read_title H_m_BookLines_following H_m_BookLines_beyond H_c_words H_c_is_name
  have H_c_read_leans := ok_read_leans (w := w) (base := base) T F_read_leans m_read_leans H_c_words H_c_is_name
  have H_c_rest := ok_rest (w := w) (base := base) T F_rest m_rest 
  have H_c_read_script := ok_read_script (w := w) (base := base) T F_read_script m_read_script H_m_BookLines_following H_m_BookLines_beyond
  have H_c_read_item := ok_read_item (w := w) (base := base) T F_read_item m_read_item H_c_words H_c_rest H_c_is_name H_c_read_script
  have H_c_parse_book := ok_parse_book (w := w) (base := base) T F_parse_book m_parse_book H_mk_BookLines H_c_read_title H_m_BookLines_following H_c_words H_c_read_leans H_c_read_item
  have H_c_law_sameI := same_int (w := w) (base := base) T F_law_same m_law_same
  have H_c_law_same := same_all (w := w) (base := base) T F_law_same m_law_same 6
  have H_c_law_right := ok_law_right (w := w) (base := base) T F_law_right m_law_right H_c_law_same
  exact law_ok T F_law H_c_law_purse H_c_law_take H_c_law_build H_c_law_edit H_c_law_stretched H_c_law_judge H_c_law_text_of H_c_parse_book H_c_law_sameI H_c_law_right
end K36
open PySem PySem.W PySem.Calls PyProof.Rows
theorem PySem.Challenge.cw_lemmahall_k36_whole_book_texts_holds : PySem.Challenge.rw_lemmahall_k36_whole_book_texts.Holds := by
  w_on; o_law
  refine HandSHeadRun.head_any (r := OpenLaw.row PySem.Challenge.rw_lemmahall_k36_whole_book_texts) (q := view (OpenLaw.row PySem.Challenge.rw_lemmahall_k36_whole_book_texts).prog [48]) (H := K36.hk) (ob := K36.ob) (M := 3000) (loose := K36.loose) (d := HandSHeadRun.topDef (OpenLaw.row PySem.Challenge.rw_lemmahall_k36_whole_book_texts).prog 48) (kwd := []) K36.ob_eq
    (by kernel_rfl) (fun s => by kernel_rfl) K36.run (by kernel_rfl) (by kernel_rfl) (by kernel_rfl) (by rfl) (by first | assumption | decide +kernel) (by decide +kernel) ⟨rfl, rfl, rfl, rfl, rfl, by decide +kernel⟩ ?hw ?hc
  case hw => w_witness2
  case hc =>
    refine L2.walk_ofE (l := PySem.Challenge.rw_lemmahall_k36_whole_book_texts) (n := 63) (k := 9) (x := "script") (CX := L2.CX0) rfl (by decide) (by kernel_rfl) ⟨rfl, by decide, by decide⟩ ?F (fun _ _ _ _ z => z)
    intro w mg fa h Y G hmg0
    obtain ⟨K, KX, c⟩ := Y
    have hmg : mg ("law" : PySem.Str) = some (.ref fa) := by
      have e : (HandSHeadRun.topDef (OpenLaw.row PySem.Challenge.rw_lemmahall_k36_whole_book_texts).prog 48).name = ("law" : PySem.Str) := by kernel_rfl
      rw [← e]
      exact hmg0
    obtain ⟨fd, hb, hF⟩ := K36.facts (w := w) KX G hmg c
    exact ⟨K, fd, K36.sp_law K, KX, hb, fun H a ns hl _ hS => ⟨L2.V.ref a, rfl, a, ns, rfl, hS, hl, fun _ => rfl⟩, hF⟩
