import PyProof.Rows.All
import Wide.All
import OpenK.AllK
import Wide.FinOn
import PyProof.EqAt
import PyProof.EqKinds
import PyProof.TupleCall
import PyProof.FString
import KE.KExcSuper
import HandS.ForSpec
import HandS.Codes
import KE.KExcIs
import KE.KIsAll
import HandS.ExcField
import HandS.ExcIs
import HandS.TryMany
import PyProof.StrBlock2
import HandS.ForMost
import HandS.Defaults
import HandS.Flow
import HandS.IsInst
import HandS.Wide
import HandS.Evl
import HandS.Comp
import KE.KStateDown
import HandS.Head0
import HandS.Head1
import HandS.Head2
import HandS.HeadEnd
import HandS.HeadHook2
import HandS.HeadHook3
import HandS.Text
import HandS.StrMore
import HandS.SetFor
import HandS.More
import HandS.Dict
import PyProof.SeqRoads2
import PyProof.ReprRoads
import PySem.Challenge.RW_lemmahall_k02_well_formed
import HandS.Style
set_option Elab.async false
set_option linter.all false
set_option maxRecDepth 100000
set_option maxHeartbeats 4000000
/-! Exceptions of the program: classes over ValueError whose __init__ says super().__init__(text) and then stores its arguments. -/
namespace PySem
namespace HallX
open PySem.W PySem.Calls PyProof.Rows PySem.HandSPX
/-! ### the method-wrapper of ValueError.__init__ -/
section
variable {prog : Program} {w : World} {A : Around} {E : Value → Shared → Prop} {h : Heap} {g : Array GenState} {d : Drawn} {t : Nat} {os : OsState}
variable {nm q : Str} {C N : Addr} {bs bm : List Value} {sn : List Str} {sub : List Value} {ab : Bool} {col : Option Bool} {dd : Option Addr} {k0 k1 k2 k3 k5 : Option Value}
theorem call_bw {u e t0 : Addr} {rest : List Value} {Q : Value → Shared → Prop}
    (hC : h.get? C = some (excClassObj nm q C N bs bm true sn sub ab col dd k0 k1 k2 k3 k5 "ValueError.__new__")) (he : h.get? e = some (excO C t0)) (hu : h.get? u = some (kxs_mw "ValueError.__init__" e)) (hrest : rest.length ≤ sizeLine)
    (hq : ∀ h' t1, (∀ b o, b ≠ e → h.get? b = some o → h'.get? b = some o) → h'.get? e = some (excO C t1) → Q .none ⟨h', g, d, t, os⟩) :
    wpAny (model prog w) A (call (.ref u) rest) Q E ⟨h, g, d, t, os⟩ := by
  refine wpAny_call (codeAny_of_tree ?_)
  show wpAny _ A.in1 (callAny (.ref u) ⟨rest, []⟩) _ _ _
  simp only [callAny]
  refine wpAny_bind (wpAny_load hu ?_)
  simp only [kxs_mw, show (Value.type "method-wrapper" == Value.type "method" || Value.type "method-wrapper" == Value.type "builtin_function_or_method" || Value.type "method-wrapper" == Value.type "method-wrapper") = true by decide, if_true]
  refine KFB.if_so (by decide) ?_
  refine wpAny_bind (check_bound_init F.excBase_ValueError.toExcCallFacts hC he rfl ?_)
  refine wpAny_bind (wpAny_pure (wpAny_pure ?_))
  refine ⟨plainId_quiet F.excBase_ValueError.init.plain _, codeAny_builtin F.excBase_ValueError.initEntry ?_⟩
  exact exc_init_tree (cls := .ref C) (t0 := t0) (dv := none) (c2 := .none) (c3 := .none) (b4 := .bool false) he hrest fun h' k e' _ => hq h' h.objs.size k e'
end
/-! ### the class, as the top has written it -/
structure HallTxt (prog : Program) (K : Frag) (mg : Str → Option Value) (x : Str) (C fI cc cda : Addr) (qual : Str) (params : Arguments) (body : List Stmt) (scope : Scope) : Prop where
  gC : mg x = some (.ref C)
  cls : ∃ nm q N bs bm sn sub ab col dd k0 k1 k2 k3 k5, K.lookup C = some (excClassObj nm q C N bs bm true sn sub ab col dd k0 k1 k2 k3 k5 "ValueError.__new__") ∧ refsVE bm = true
  sup : ks_superIn K C C "__init__" = some (some (.builtin "ValueError.__init__"))
  sa : findIn K (.ref C) "__setattr__" = some (some (.builtin "object.__setattr__"))
  ga : findIn K (.ref C) "__getattribute__" = some (some (.builtin "BaseException.__getattribute__"))
  gg : findIn K (.ref C) "__getattr__" = some none
  iC : findIn K (.ref C) "__init__" = some (some (.ref fI))
  tI : typeIn K (.ref fI) = some (.type "function")
  kC : keepIn K (.ref C) = true
  exC : subIn K (.ref C) (.type "BaseException") = some true
  tyC : typeIn K (.ref C) = some (.type "type")
  hdC : hasDictIn K C = true
  ve : subIn K (.ref C) (.type "ValueError") = some true
  self : mroIn K C (.ref C) = some true
  fn : ∃ oc od dV kV doc pm an ct osl, K.lookup fI = some ⟨oc, od, .func (ksFn "__init__" qual params body scope dV kV doc pm an (.ref cda) ct cc), osl⟩ ∧ codeIn K (.ref cda) qual = true ∧ dV = Value.none
  code : ∃ ccl cdd vs ccs tf, K.lookup cda = some ⟨ccl, cdd, .fields vs, ccs⟩ ∧ vs[2]? = some (.str prog.main.file tf)
  cell : ∃ cl cld csl, K.lookup cc = some ⟨cl, cld, .cell (some (.ref C)), csl⟩
  stat : nsIn K cStatics "thirdparty.any" = some none
  sup0 : mg "super" = none
  top0 : (prog.main.scope.names.lookup ("super" : Str)).isSome = false
/-- a message: a text is made, nothing else happens -/
def MsgOk (prog : Program) (w : World) (env : Env) (L : Addr) (m : Str → Option Value) (e : Expr) : Prop :=
  ∀ (A : Around) (E : Value → Shared → Prop) (s : Shared) (Q : Value → Shared → Prop), s.heap.Ns L m → (∀ z tk tk', Q (.str z tk) { s with toks := tk' }) → wpAny (model prog w) A (eval e env) Q E s
section
variable {prog : Program} {w : World} {A : Around} {E : Value → Shared → Prop} {R : Result → Shared → Prop} {s : Shared} {K : Frag} {mg mb : Str → Option Value} {x : Str} {C fI cc cda : Addr} {qual : Str} {params : Arguments} {body : List Stmt} {scope : Scope}
theorem msg_const {env : Env} {L : Addr} {m : Str → Option Value} {z : Str} {j} {pos : Pos} : MsgOk prog w env L m (.Constant (.str z) j pos) := fun A E s Q _ h => Calls.Constant_str (h z _ _)
theorem ldv {env : Env} {L : Addr} {m : Str → Option Value} {y : Str} {pos : Pos} {v : Value} {Q : Value → Shared → Prop} (hn : s.heap.Ns L m) (hL : env.locals = L) (hv : m y = some v) (h : Q v s)
    (hk : env.scope.kind = .function) (hl : env.kindOf y = some .local) (hd : (y == ("__debug__" : Str)) = false) : wpAny (model prog w) A (eval (.Name y pos) env) Q E s := by
  subst hL
  exact wpAny_Name (wpAny_loadName_local hk hl hn hv h) hd
theorem evalEach_nil (env : Env) : evalEach [] env = [] := by first | rfl | simp [evalEach]
theorem evalEach_cons (e : Expr) (es : List Expr) (env : Env) : evalEach (e :: es) env = eval e env :: evalEach es env := by first | rfl | simp [evalEach]
/-- f"text{y}" -/
theorem msg_f2 {env : Env} {L : Addr} {m : Str → Option Value} {z y : Str} {j} {p1 p2 p3 pos : Pos} {i : Int} {ti : Tok} (hL : env.locals = L) (hv : m y = some (.int i ti)) (hi : i.natAbs.log2 < 1920) (hz : z.length + (toString i : Str).length ≤ sizeLine)
    (hk : env.scope.kind = .function) (hl : env.kindOf y = some .local) (hd : (y == ("__debug__" : Str)) = false) :
    MsgOk prog w env L m (.JoinedStr [.Constant (.str z) j p1, .FormattedValue (.Name y p2) (-1) none p3] pos) := fun A E s Q hn h => by
  refine wpAny_JoinedStr ?_
  rw [evalEach_cons, evalEach_cons, evalEach_nil]
  have e0 : (Str.empty ++ z) = z := by
    obtain ⟨a⟩ := z
    show (⟨#[] ++ a⟩ : Str) = ⟨a⟩
    simp
  refine Calls.Constant_str ⟨z, _, rfl, ?_, ?_⟩
  · rw [e0]; omega
  · rw [e0]
    refine wpAny_FormattedValue_plain (ldv (s := { s with toks := s.toks + 1 }) hn hL hv ?_ hk hl hd)
    refine wpAny_formatField_int hi ⟨_, _, rfl, ?_, ?_, ?_⟩
    · rw [Str.length_append]; exact hz
    · rw [Str.length_append]; exact hz
    · exact h _ _ _
/-- what super().__init__(msg) leaves -/
theorem super_init {pl : Sem Bool} {e t0 L : Addr} {m : Str → Option Value} {msg : Expr} {p0 p1 p2 p3 p4 : Pos} {Q : Flow → Shared → Prop} {ar : Arg} (T : HallTxt prog K mg x C fI cc cda qual params body scope)
    (X : K.In s.heap) (G : s.heap.Ns mainGlobals mg) (Gb : s.heap.Ns builtinsNs mb) (hb : mb "super" = some (.type "super")) (hn : s.heap.Ns L m) (he : s.heap.get? e = some (excO C t0)) (hne : K.lookup e = none)
    (har : (params.posonlyargs ++ params.args).head? = some ar) (hself : m ar.arg = some (.ref e))
    (hks : scope.names.lookup ("super" : Str) = some .globalImplicit) (hkc : scope.names.lookup ("__class__" : Str) = some .free) (hka : scope.names.lookup ar.arg = some .local) (hk : scope.kind = .function)
    (hm : MsgOk prog w (ksEnv qual scope L fI (.ref cda) cc) L m msg)
    (hst : starEach [msg] (ksEnv qual scope L fI (.ref cda) cc) = [(false, eval msg (ksEnv qual scope L fI (.ref cda) cc))])
    (hev : eval (.Call (.Attribute (.Call (.Name "super" p0) [] [] p1) "__init__" p2) [msg] [] p3) (ksEnv qual scope L fI (.ref cda) cc) = (do
      let ov ← attributeBase (.Call (.Name "super" p0) [] [] p1) "__init__" (ksEnv qual scope L fI (.ref cda) cc) (eval (.Call (.Name "super" p0) [] [] p1) (ksEnv qual scope L fI (.ref cda) cc))
      standAt p2.atName
      let (f, first) ← holding [ov] (getMethod ov "__init__" pl)
      callWith p3 f first (backTo p3 (starEach [msg] (ksEnv qual scope L fI (.ref cda) cc))) []))
    (hq : ∀ h' tk t1, (∀ b o, b ≠ e → s.heap.get? b = some o → h'.get? b = some o) → h'.get? e = some (excO C t1) → Q .next { s with heap := h', toks := tk }) :
    _root_.PySem.wpAt (model prog w) A (.func body (ksEnv qual scope L fI (.ref cda) cc)) (exec (.Expr (.Call (.Attribute (.Call (.Name "super" p0) [] [] p1) "__init__" p2) [msg] [] p3) p4) (ksEnv qual scope L fI (.ref cda) cc)) Q E s := by
  obtain ⟨hh, g, d, t, os⟩ := s
  obtain ⟨nm, q, N, bs, bm, sn, sub, ab, col, dd, k0, k1, k2, k3, k5, hC, hbm⟩ := T.cls
  obtain ⟨oc, od, dV, kV, doc, pm, an, ct, osl, hf, hcd, _⟩ := T.fn
  obtain ⟨ccl, cdd, vs, ccs, tf, hcode, hvs⟩ := T.code
  obtain ⟨cl, cld, csl, hcell⟩ := T.cell
  have hcl : clsIn K C = some { name := nm, bases := bs, mro := .ref C :: bm, ns := N, qualname := q, hasDict := true, slotNames := sn, subclasses := sub, abstract := ab, collection := col, hasDel := false } := by unfold clsIn; rw [hC] <;> rfl
  have eC : e ≠ C := fun z => by rw [z, hC] at hne; cases hne
  have hint : interactive (ksEnv qual scope L fI (.ref cda) cc) = false := by
    show (scope.kind == .module && _) = false
    rw [hk] <;> rfl
  refine ks_wpAt_Expr_any (ks_wpAt_MethodCall (pl := pl) ?_ hev) hint rfl
  · refine ks_wpAt_super_base (env := ksEnv qual scope L fI (.ref cda) cc) hks hkc (by decide) rfl (X _ _ hf) rfl har rfl (X _ _ hcode) rfl hvs (by simp) T.top0 ?_
    refine ks_loadName_global hk hks (loadGlobal_builtin (env := ksEnv qual scope L fI (.ref cda) cc) G T.sup0 Gb hb ⟨rfl, ?_⟩)
    refine wpAny_loadName_free hk hkc rfl ⟨_, X _ _ hcell, rfl⟩ ?_
    refine wpAny_loadName_local hk hka hn hself ?_
    refine ks_wpAny_isType_cls (X _ _ hC) rfl ⟨rfl, ?_⟩
    refine ks_wpAny_call_super (X _ _ hC) rfl he rfl (fun c z => by cases z) (looks_mroIn X T.self) (fun h1 hso k1' => ?_)
    have X1 : K.In h1 := X.keeps k1'
    have he1 := k1' _ _ he
    have hmro : Looks (model prog w) h1 (mroOf (.ref C)) (.ref C :: bm) := fun A Q E s k q => wpAny_bind ((looks_clsIn X1 hcl) A _ E s k (wpAny_pure q))
    have hsup : alongIn K "__init__" (((Value.ref C :: bm).dropWhile (· != .ref C)).drop 1) = some (some (.builtin "ValueError.__init__")) := by
      have z := T.sup
      unfold ks_superIn at z
      rw [hcl] at z
      exact z
    have I1 : InstAt h1 e (excO C t0) C none := ⟨he1, rfl, rfl, trivial⟩
    refine kxs_getMethod kxs_ValueError hso (looks_opaque X1 T.stat) hmro rfl X1 hsup (I1.type.andThen (looks_subIn X1 T.ve)) eC (by decide) ?_
    have hu : (h1.push (kxs_mw "ValueError.__init__" e)).get? h1.objs.size = some (kxs_mw "ValueError.__init__" e) := Heap.get?_push_at rfl rfl
    have k2' : ∀ b o, hh.get? b = some o → (h1.push (kxs_mw "ValueError.__init__" e)).get? b = some o := fun b o z => Heap.get?_push_of_some _ (k1' b o z)
    refine kxs_callWith (i := "ValueError.__init__") (x := e) (by rw [hst] <;> rfl) ?_
    rw [hst]
    refine evalArgs_plain ?_
    show wpAny _ _ (spliced [(false, eval msg (ksEnv qual scope L fI (.ref cda) cc))]) _ _ _
    refine Calls.spliced_cons (hm _ _ ⟨h1.push (kxs_mw "ValueError.__init__" e), g, d, t + 1, os⟩ _ (hn.keeps k2') (fun z tk tk' => ?_))
    refine Calls.spliced_nil ⟨hu, ?_⟩
    refine call_bw (X1.keeps (fun b o z => Heap.get?_push_of_some _ z) _ _ hC) (k2' _ _ he) hu (by show 1 ≤ sizeLine; rw [sizeLine_eq]; decide) (fun h' t1 k3' e' => ?_)
    exact hq h' _ t1 (fun b o hbe ho => k3' b o hbe (k2' b o ho)) e'
/-- what __init__ leaves of a fresh exception at e -/
structure InitEnd (h h' : Heap) (e C dx : Addr) (y : Str) (v : Value) : Prop where
  keep : ∀ b o, b ≠ e → h.get? b = some o → h'.get? b = some o
  obj : ∃ t1, h'.get? e = some { cls := .ref C, dict := some dx, data := .fields #[.ref t1, .none, .none, .none, .bool false, .none] }
  dbig : h.objs.size ≤ dx
  dne : dx ≠ e
  ns : h'.Ns1 dx (fun z => if z = y then some v else none)
/-- a made exception -/
structure OwnMade (h h' : Heap) (e C d : Addr) (y : Str) (v : Value) : Prop where
  keep : ∀ b o, h.get? b = some o → h'.get? b = some o
  new : h.objs.size ≤ e
  obj : ∃ oe vs, h'.get? e = some oe ∧ oe.cls = .ref C ∧ oe.dict = some d ∧ oe.data = .fields vs ∧ vs[1]? = some .none
  dbig : h.objs.size ≤ d
  dne : d ≠ e
  ns : h'.Ns1 d (fun z => if z = y then some v else none)
/-- __init__(self, y): super().__init__(msg); self.y = y -/
structure Init1 (prog : Program) (w : World) (y : Str) (ok : Value → Prop) (qual : Str) (params : Arguments) (body : List Stmt) (scope : Scope) : Prop where
  head : ∃ a1 : Arg, a1.arg = "self" ∧ (params.posonlyargs ++ params.args).head? = some a1
  bind : ∀ (kV doc pm : Value) (an : Option Addr) (cdv ct : Value) (cc : Addr) (u v : Value), bindArgs (ksFn "__init__" qual params body scope .none kV doc pm an cdv ct cc) ⟨[u, v], []⟩ = pure [(("self" : Str), u), (y, v)]
  bd : ∃ (p0 p1 p2 p3 p4 q1 q2 q3 q4 : Pos) (msg : Expr) (pl : Sem Bool), body = [.Expr (.Call (.Attribute (.Call (.Name "super" p0) [] [] p1) "__init__" p2) [msg] [] p3) p4, .Assign [.Attribute (.Name "self" q1) y q2] (.Name y q3) q4] ∧
    (∀ (L fI cc : Addr) (cd : Value) (m : Str → Option Value) (v : Value), m y = some v → ok v → MsgOk prog w (ksEnv qual scope L fI cd cc) L m msg) ∧
    (∀ (env : Env), env.scope = scope → starEach [msg] env = [(false, eval msg env)]) ∧
    (∀ (env : Env), env.scope = scope → eval (.Call (.Attribute (.Call (.Name "super" p0) [] [] p1) "__init__" p2) [msg] [] p3) env = (do
      let ov ← attributeBase (.Call (.Name "super" p0) [] [] p1) "__init__" env (eval (.Call (.Name "super" p0) [] [] p1) env)
      standAt p2.atName
      let (f, first) ← holding [ov] (getMethod ov "__init__" pl)
      callWith p3 f first (backTo p3 (starEach [msg] env)) []))
  hys : (y == ("self" : Str)) = false
  hyd : (y == ("__debug__" : Str)) = false
  hks : scope.names.lookup ("super" : Str) = some .globalImplicit
  hkc : scope.names.lookup ("__class__" : Str) = some .free
  hka : scope.names.lookup ("self" : Str) = some .local
  hky : scope.names.lookup y = some .local
  hk : scope.kind = .function
  hco : scope.isCoroutine = false
  hgen : scope.isGenerator = false
  hcell : ∀ x ∈ scope.names, x.2 ≠ .cell
theorem hall_init {e t0 : Addr} {v : Value} {y : Str} {ok : Value → Prop} (T : HallTxt prog K mg x C fI cc cda qual params body scope) (I : Init1 prog w y ok qual params body scope) (no : findIn K (.ref C) y = some none)
    (X : K.In s.heap) (G : s.heap.Ns mainGlobals mg) (Gb : s.heap.Ns builtinsNs mb) (hb : mb "super" = some (.type "super")) (hlim : s.heap.NoLimit) (he : s.heap.get? e = some (excO C t0)) (hne : K.lookup e = none)
    (hroom : A.depth < recursionLimit) (hv : ok v)
    (hq : ∀ h' tk dx, InitEnd s.heap h' e C dx y v → R (.ok (.ret .none)) { s with heap := h', toks := tk }) :
    codeAny (model prog w) A (.call (.ref fI) ⟨[.ref e, v], []⟩) R s := by
  obtain ⟨nm, q, N, bs, bm, sn, sub, ab, col, dd, k0, k1, k2, k3, k5, hC, hbm⟩ := T.cls
  obtain ⟨oc, od, dV, kV, doc, pm, an, ct, osl, hf, hcd, hdv⟩ := T.fn
  obtain ⟨p0, p1, p2, p3, p4, q1, q2, q3, q4, msg, pl, rfl, hm, hst, hev⟩ := I.bd
  have hcl : clsIn K C = some { name := nm, bases := bs, mro := .ref C :: bm, ns := N, qualname := q, hasDict := true, slotNames := sn, subclasses := sub, abstract := ab, collection := col, hasDel := false } := by unfold clsIn; rw [hC] <;> rfl
  refine ks_codeAny_call_defAt (body := _) (binds := [(("self" : Str), .ref e), (y, v)]) hroom (X _ _ hf) rfl hlim (codeRec_of X hcd) rfl (by subst hdv; exact BindsTo.of_eq (I.bind _ _ _ _ _ _ _ _ _)) I.hcell (fun z hz => ?_) (fun h₁ hns hk₁ => ?_) I.hco I.hgen I.hk
  · rcases List.mem_cons.mp hz with rfl | hz
    · exact I.hka
    rcases List.mem_cons.mp hz with rfl | hz
    · exact I.hky
    · cases hz
  · show _root_.PySem.wpAt (model prog w) _ (.func _ (ksEnv qual scope s.heap.objs.size fI (.ref cda) cc)) (execs _ (ksEnv qual scope s.heap.objs.size fI (.ref cda) cc)) _ _ _
    have my : (fun z => ([(("self" : Str), Value.ref e), (y, v)] : List (Str × Value)).reverse.lookup z) y = some v := by
      show List.lookup y ([(y, v), (("self" : Str), Value.ref e)] : List (Str × Value)) = some v
      simp [List.lookup]
    have ms : (fun z => ([(("self" : Str), Value.ref e), (y, v)] : List (Str × Value)).reverse.lookup z) "self" = some (.ref e) := by
      show List.lookup ("self" : Str) ([(y, v), (("self" : Str), Value.ref e)] : List (Str × Value)) = some (.ref e)
      have z : (("self" : Str) == y) = false := by
        have z := I.hys
        rw [beq_eq_false_iff_ne] at z ⊢
        exact fun w => z w.symm
      simp [List.lookup, z]
    have eL : s.heap.objs.size ≠ e := Nat.ne_of_gt (Heap.lt_size he)
    obtain ⟨a1, ha1, hpar⟩ := I.head
    refine ks_wpAt_execs_cons (super_init (t0 := t0) (mb := mb) (pl := pl) (ar := a1) T (X.keeps hk₁) (G.keeps hk₁) (Gb.keeps hk₁) hb hns (hk₁ _ _ he) hne hpar (by rw [ha1]; exact ms) I.hks I.hkc (by rw [ha1]; exact I.hka) I.hk
      (hm _ _ _ _ _ v my hv) (hst _ rfl) (hev _ rfl) (fun h' tk t1 k' e' => ?_))
    have X' : K.In h' := fun a o z => by
      have hae : a ≠ e := fun w => by rw [w, hne] at z; cases z
      exact k' a o hae (hk₁ _ _ (X a o z))
    have hns' : h'.Ns s.heap.objs.size (fun z => ([(("self" : Str), Value.ref e), (y, v)] : List (Str × Value)).reverse.lookup z) := hns.at fun o z => k' _ o eL z
    refine _root_.PySem.wpAt_of_wpAny ?_
    show wpAny _ _ (execs [_] _) _ _ _
    refine wpAny_execs_cons (plainObj_wpAny_Assign_Attribute ?_)
    refine ldv hns' rfl my (ldv hns' rfl ms ?_ I.hk I.hka (by decide)) I.hk I.hky I.hyd
    refine set_plain X' (ox := excO C t1) (od := none) ⟨e', rfl, rfl, trivial⟩ T.sa ?_
    refine exc_osa X' e' hcl (show refsVE (.ref C :: bm) = true from hbm) rfl no (fun h₃ tk₃ dx k₃ dn dne hx₃ hn₃ => ?_)
    show wpAny _ _ (execs _ _) _ _ _
    have z : s.heap.objs.size ≤ dx := by
      have z1 : s.heap.objs.size < h'.objs.size := hns'.lt
      have z2 : h'.objs.size ≤ dx := dn
      exact Nat.le_of_lt (Nat.lt_of_lt_of_le z1 z2)
    exact wpAny_execs_nil (hq h₃ tk₃ dx ⟨fun b o hbe z => k₃ b o hbe (k' b o hbe (hk₁ b o z)), ⟨t1, hx₃⟩, z, dne, hn₃⟩)
theorem hall_made {v : Value} {y : Str} {ok : Value → Prop} (T : HallTxt prog K mg x C fI cc cda qual params body scope) (I : Init1 prog w y ok qual params body scope) (no : findIn K (.ref C) y = some none)
    (X : K.In s.heap) (G : s.heap.Ns mainGlobals mg) (Gb : s.heap.Ns builtinsNs mb) (hb : mb "super" = some (.type "super")) (hlim : s.heap.NoLimit) (hroom : A.depth + 1 < recursionLimit) (hv : ok v)
    (hq : ∀ h' tk e d, OwnMade s.heap h' e C d y v → R (.ok (.ret (.ref e))) { s with heap := h', toks := tk }) :
    codeAny (model prog w) A (.call (.ref C) ⟨[v], []⟩) R s := by
  obtain ⟨nm, q, N, bs, bm, sn, sub, ab, col, dd, k0, k1, k2, k3, k5, hC, hbm⟩ := T.cls
  obtain ⟨hp, g, dr, tk, os⟩ := s
  have k : ∀ b o, hp.get? b = some o → ((hp.push (kdv_tup [v])).push (excO C hp.objs.size)).get? b = some o := fun b o e => Heap.get?_push_of_some _ (Heap.get?_push_of_some _ e)
  have hget : ((hp.push (kdv_tup [v])).push (excO C hp.objs.size)).get? (hp.objs.size + 1) = some (excO C hp.objs.size) := by heap_get
  have hnx : K.lookup (hp.objs.size + 1) = none := by
    cases e : K.lookup (hp.objs.size + 1) with
    | none => rfl
    | some o =>
      have z : hp.get? (hp.objs.size + 1) = some o := X _ _ e
      exact absurd (Nat.lt_of_succ_lt (Heap.lt_size z)) (Nat.lt_irrefl _)
  refine call_own F.excBase_ValueError (fun X => refsVE_contains X bm hbm) (X _ _ hC) (looks_findIn X T.iC) (fun self => bind_fn X self T.tI) (by show 1 ≤ sizeLine; rw [sizeLine_eq]; decide) ?_
  refine hall_init (s := ⟨(hp.push (kdv_tup [v])).push (excO C hp.objs.size), g, dr, tk, os⟩) T I no (X.keeps k) (G.keeps k) (Gb.keeps k) hb (hlim.keeps k) hget hnx ?_ hv fun h' tk' dx ⟨k', hx, dn, dne, hns⟩ => ?_
  · show A.depth + 1 < recursionLimit
    exact hroom
  · have old : ∀ b o, hp.get? b = some o → h'.get? b = some o := fun b o e => k' b o (Nat.ne_of_lt (Nat.lt_succ_of_lt (Heap.lt_size e))) (k b o e)
    have z : hp.objs.size + 1 + 1 ≤ dx := by
      first
        | (simpa only [Heap.size_push] using dn)
        | exact dn
        | (have q := dn; rw [Heap.size_push, Heap.size_push] at q; exact q)
    obtain ⟨t1, hx⟩ := hx
    exact ⟨rfl, hq h' tk' (hp.objs.size + 1) dx ⟨old, Nat.le_succ _, ⟨_, _, hx, rfl, rfl, rfl, rfl⟩, Nat.le_trans (Nat.le_trans (Nat.le_succ _) (Nat.le_succ _)) z, dne, hns⟩⟩
end
end HallX
end PySem
namespace L2
open PySem PySem.Spec PyProof.Rows PySem.HallX
theorem relO_one {v : V} {v' : Value} (r : RelV v v') (y f : Str) : RelO (List.lookup f [(y, v)]) (if f = y then some v' else none) := by
  by_cases hw : f = y
  · subst hw
    rw [if_pos rfl]
    have q : List.lookup f [(f, v)] = some v := by simp [List.lookup]
    rw [q]
    exact r
  · rw [if_neg hw]
    have qw : (f == y) = false := by simpa using hw
    have q2 : List.lookup f [(y, v)] = none := by simp [List.lookup, qw]
    rw [q2]
    trivial
theorem boot_super : bootBuiltins "super" = some (.type "super") := by first | rfl | kernel_rfl | decide +kernel
section
variable {X : Cx} {x y qual : Str} {C fI cc cda : Addr} {params : Arguments} {body : List Stmt} {scope : Scope}
/-- C(e) -/
def tMkH (C : Addr) (y : Str) (okV : V → Prop) (ta : TA) : St → Hp → XK → Prop := fun σ H Q => ta σ H fun vs H1 => ∃ v, vs = [v] ∧ okV v ∧ ∀ d, H1 d = none → Q (.ref C) (some d) (upd H1 d (.xd [(y, v)]))
theorem pmk_hall {a : Expr} {ta : TA} {p pos : Pos} {k : Nat} {ok : Value → Prop} {okV : V → Prop} (T : HallTxt X.prog X.K X.mg x C fI cc cda qual params body scope) (J : Init1 X.prog X.w y ok qual params body scope) (no : PySem.W.findIn X.K (.ref C) y = some none)
    (hok : ∀ v u, RelV v u → okV v → ok u) (hr : Room k X.A) (ha : PA X [a] ta) (hg : Gl X x) (hd : (x == ("__debug__" : Str)) = false := by decide)
    (he : starEach (a :: []) X.env = (false, eval a X.env) :: starEach [] X.env := by rfl) (hpl : (backTo pos (starEach [] X.env)).any (·.1) = false := by rfl) :
    PMk X (.Call (.Name x p) [a] [] pos) (tMkH C y okV ta) := by
  intro pins s σ H Q I h
  refine wpAny_Call_Name_kw (ld_glob I hg T.gC ?_ hd)
  refine PySem.W.callWith_K (h₀ := X.base) I.ok.mod.kin T.kC (thn (ha.run pos pins s σ H _ I h) fun us s1 hh => ?_) he hpl
  obtain ⟨vs, H1, I1, r1, v, ev, hov, q1⟩ := hh
  subst ev
  refine ⟨I1.kIn, ?_⟩
  cases r1 with
  | cons rv rn =>
    rename_i v' us'
    cases rn
    show wpAny _ _ (call (.ref C) [v']) _ _ _
    have hlim := I1.nolimit
    obtain ⟨mb, hb1, hb2⟩ := I1.mod.blt
    have G := I1.mod.glob.keeps I1.bk
    have Gb := hb1.keeps I1.bk
    have hb : mb "super" = some (.type "super") := (hb2 "super" (by decide)).trans boot_super
    have hkin := I1.kIn
    obtain ⟨hp, g, dr, tk, os⟩ := s1
    refine wpAny_call (hall_made (mb := mb) T J no hkin G Gb hb hlim (by have := hr.dp; omega) (hok _ _ rv hov) fun h' tk' e d M => ?_)
    show MkP X pins σ Q (.ref e) ⟨h', g, dr, tk', os⟩
    obtain ⟨oe, fv, hoe, hc, hd, hdat, h1⟩ := M.obj
    have hns := M.ns
    obtain ⟨G', g1, g2⟩ := restrict h' fun b => decide (b ≠ e)
    have gk : ∀ b, b ≠ e → G'.get? b = h'.get? b := fun b hb => g1 b (decide_eq_true hb)
    have ge : G'.get? e = none := g2 e (by simp)
    have old : ∀ b o, hp.get? b = some o → G'.get? b = some o := fun b o q => (gk b (Nat.ne_of_lt (Nat.lt_of_lt_of_le (Heap.lt_size q) M.new))).trans (M.keep b o q)
    have ob : ObjOk X.prog X.w (upd H1 d (.xd [(y, v)])) G' d (.xd [(y, v)]) :=
      ⟨_, hns.at (fun o q => (gk d M.dne).trans q), fun f => relO_one rv y f⟩
    have J : Inv X pins σ (upd H1 d (.xd [(y, v)])) ⟨G', g, dr, tk', os⟩ := I1.laid (t' := tk') old M.dbig ob
    refine ⟨e, oe, fv, ⟨G', g, dr, tk', os⟩, _, .ref C, some d, rfl, J, fun b o q => ?_, ge, hoe, ⟨hc, hd⟩, hdat, h1, ?_, rfl, I1.bare, raises_own T.exC T.tyC, q1 d (I1.hok.fresh M.dbig)⟩
    · by_cases hb : b = e
      · have q' : G'.get? b = some o := q
        rw [hb, ge] at q'; cases q'
      · exact (gk b hb).symm.trans q
    · rw [upd_ne (Ne.symm M.dne)]
      exact I1.hok.fresh M.new
/-- raise C(e) -/
def tRaiseH (C : Addr) (y : Str) (okV : V → Prop) (W : WX) (ta : TA) : TS := fun _ σ H => tMkH C y okV ta σ H fun cls d H' => W cls d σ H'
theorem ps_raiseH {a : Expr} {ta : TA} {W : WX} {p pos pos2 : Pos} {k : Nat} {ok : Value → Prop} {okV : V → Prop} (hc : X.calm = true) (T : HallTxt X.prog X.K X.mg x C fI cc cda qual params body scope) (J : Init1 X.prog X.w y ok qual params body scope) (no : PySem.W.findIn X.K (.ref C) y = some none)
    (hok : ∀ v u, RelV v u → okV v → ok u) (hr : Room k X.A) (tk : Takes X W) (ha : PA X [a] ta) (hg : Gl X x) (hd : (x == ("__debug__" : Str)) = false := by decide)
    (he : starEach (a :: []) X.env = (false, eval a X.env) :: starEach [] X.env := by rfl) (hpl : (backTo pos (starEach [] X.env)).any (·.1) = false := by rfl) :
    PS X (.Raise (some (.Call (.Name x p) [a] [] pos)) none pos2) (tRaiseH C y okV W ta) := ps_raise hc tk (pmk_hall T J no hok hr ha hg hd he hpl)
end
end L2

/-! several except clauses, with and without a name; isinstance of a caught error that has its dict -/
namespace L2
open PySem PySem.Spec PyProof.Rows
abbrev Clz : Type := Value × Option Nat × (Addr → Value → Option Addr → TS)
/-- behind a suite the name is unbound -/
def endsAs (i : Nat) (D : Ends) : Ends := { nx := fun σ H => D.nx (σ.set i none) H, rt := D.rt, bk := fun σ H => D.bk (σ.set i none) H, ct := fun σ H => D.ct (σ.set i none) H }
def wManyA (K : PySem.W.Frag) (Wout : WX) (D : Ends) : List Clz → WX
  | [] => Wout
  | (c, none, ts) :: r => fun cls d σ H => ∃ b, PySem.W.exmOne K cls c = some b ∧ (b = true → ∀ a, H a = none → ts a cls d D σ H) ∧ (b = false → wManyA K Wout D r cls d σ H)
  | (c, some i, ts) :: r => fun cls d σ H => ∃ b, PySem.W.exmOne K cls c = some b ∧ (b = true → ∀ a, H a = none → ts a cls d (endsAs i D) (σ.set i (some (.ref a))) H) ∧ (b = false → wManyA K Wout D r cls d σ H)
inductive HdsA (X : Cx) : List ExceptHandler → List Clz → Prop
  | nil : HdsA X [] []
  | bare {x : Str} {c : Value} {ts : Addr → Value → Option Addr → TS} {b₀ : Stmt} {suite : List Stmt} {np pos' : Pos} {hds : List ExceptHandler} {l : List Clz} (hc : Names X x c)
      (hsu : ∀ (a : Addr) (oe : Obj) (cls : Value) (d : Option Addr) (pn : List (Addr × Obj)), Zc cls d oe → (∃ vs, oe.data = .fields vs) → PSs (X.suite a ((a, oe) :: pn)) (b₀ :: suite) (ts a cls d)) (r : HdsA X hds l) :
      HdsA X (.ExceptHandler (some (.Name x np)) none (b₀ :: suite) pos' :: hds) ((c, none, ts) :: l)
  | as_ {x n : Str} {i : Nat} {c : Value} {ts : Addr → Value → Option Addr → TS} {b₀ : Stmt} {suite : List Stmt} {np pos' : Pos} {hds : List ExceptHandler} {l : List Clz} (hN : X.N.Nodup) (hi : X.N[i]? = some n) (hln : X.env.kindOf n = some .local) (hc : Names X x c)
      (hsu : ∀ (a : Addr) (oe : Obj) (cls : Value) (d : Option Addr) (pn : List (Addr × Obj)), Zc cls d oe → (∃ vs, oe.data = .fields vs) → PSs (X.suite a ((a, oe) :: pn)) (b₀ :: suite) (ts a cls d)) (r : HdsA X hds l) :
      HdsA X (.ExceptHandler (some (.Name x np)) (some n) (b₀ :: suite) pos' :: hds) ((c, some i, ts) :: l)
section
variable {X : Cx} {body : List Stmt} {h₀ : ExceptHandler} {hds : List ExceptHandler} {l : List Clz} {pos : Pos} {tb : WX → TS} {Wout : WX}
theorem ps_try_manyA (hs : X.stack = X.env :: X.outer) (hf : X.env.frame = some X.env.locals) (tk : Takes X Wout)
    (hb : ∀ (W : WX) (pn : List (Addr × Obj)) (xe : Value → Shared → Prop), Takes (X.tr pn xe) W → PassesOwn (model X.prog X.w) X.A X.env xe → PSs (X.tr pn xe) body (tb W))
    (hh : HdsA X (h₀ :: hds) l) : PS X (.Try body (h₀ :: hds) [] [] pos) (fun D σ H => tb (wManyA X.K Wout D l) D σ H) := by
  refine ⟨fun pins s σ H D I h => ?_⟩
  have ok := I.ok
  have hfr : X.A.frames = some (X.env :: X.outer) := by rw [ok.frames, hs]
  refine wpAny_Try_except ?_
  refine wpAny_mono ((hb (wManyA X.K Wout D l) (X.pn ++ pins) (fun e s₁ => wpAny (model X.prog X.w) X.A (noteFrame e X.env) (fun _ s₂ => wpAny (model X.prog X.w) X.A (setFlight e none) (fun _ s₃ =>
    wpAny (model X.prog X.w) X.A (handleBy e X.env (h₀ :: hds)) (SP X pins D) X.xe s₃) X.xe s₂) X.xe s₁) (fun u s' xx => ?_) PassesOwn.looking).run [] s σ H D (I.toTry _) h) (fun f s1 hsp => ?_) (fun e s1 he => he)
  · obtain ⟨a, B, sI, pins', σ', H', cls, d, rfl, J', nb, up, sky, na, os, ag, w⟩ := xx
    have J : Inv X pins σ' H' sI := J'.ofTry ok
    have sky' : Sky B (X.env :: X.outer) a (Zc cls d) X.env.locals s'.heap := by rw [← hs]; exact sky
    show wpAny (model X.prog X.w) X.A (noteFrame (.ref a) X.env) _ _ _
    refine Sky.land Zc.steady hfr hf sky' fun h3 fl3 up3 => ?_
    have J3 : Inv X pins σ' H' { s' with heap := h3 } := J.landed nb fl3.1 (up.trans up3) os ag
    obtain ⟨oe3, vs3, he3, hz3, hd3⟩ := fl3.there
    have notFr : ∀ {h : Heap} {o : Obj} {vs : Array Value}, h.FunFrames B (X.env :: X.outer) → h.get? a = some o → o.data = .fields vs → a ∉ frs (X.env :: X.outer) := fun {h o vs} ff e dd hm => by
      obtain ⟨_, o', e', hnf⟩ := ff.mem hm
      rw [e] at e'; cases e'
      exact hnf _ dd
    have nfr := notFr fl3.2.2.1 he3 hd3
    have nL : a ≠ X.env.locals := fun z => nfr (List.mem_filterMap.mpr ⟨X.env, List.mem_cons_self, by rw [hf, z]⟩)
    have nF : a ∉ X.fs := fun hm => by
      obtain ⟨e, he, q⟩ := List.mem_filterMap.mp hm
      exact nfr (List.mem_filterMap.mpr ⟨e, List.mem_cons_of_mem _ he, q⟩)
    have S3 := J3.suite he3 hd3 na nL nF
    have LT : PySem.W.Looks (model X.prog X.w) h3 (typeOf (.ref a)) cls := fun A Q E s k q => wpAny_typeOf_ref (k _ _ he3) (by rw [hz3.1]; exact q)
    have test : ∀ {x : Str} {c : Value} {np : Pos} (hc : Names X x c) {Q : Value → Shared → Prop} {E : Value → Shared → Prop}, Q c { s' with heap := h3 } → wpAny (model X.prog X.w) (X.A.mark (some (.ref a))) (eval (.Name x np) X.env) Q E { s' with heap := h3 } := by
      intro x c np hc Q E q
      obtain ⟨hg, hdbg, hm | ⟨hm, hv, hnn⟩⟩ := hc
      · exact ld_glob (X := X.suite a ((a, oe3) :: (X.pn ++ pins))) S3 hg hm q hdbg
      · exact ld_blt (X := X.suite a ((a, oe3) :: (X.pn ++ pins))) S3 hg hm hv q hnn hdbg
    have go : ∀ {hds' : List ExceptHandler} {l' : List Clz}, HdsA X hds' l' → wManyA X.K Wout D l' cls d σ' H' →
        wpAny (model X.prog X.w) X.A (handleBy (.ref a) X.env hds') (SP X pins D) X.xe { s' with heap := h3 } := by
      intro hds' l' hk
      induction hk with
      | nil =>
        intro w
        refine wpAny_handleBy_nil ?_
        obtain ⟨k1, k2, k3, oe, vs, T, oT, ts', he, hz, hd, h1, hr⟩ := id fl3
        unfold PySem.passOn
        refine wpAny_bind (wpAny_field he hd h1 ?_)
        rw [if_neg (show ¬ ((Value.ref T == Value.none) = true) from by simp)]
        have fin : wpAny (model X.prog X.w) X.A (setFlight (.ref a) X.env.frame) (fun _ s4 => wpAny (model X.prog X.w) X.A (throw (.ref a) : Sem Flow) (SP X pins D) X.xe s4) X.xe { s' with heap := h3 } := by
          rw [hf]
          refine HandSPX.setFlight_upZ fl3 fun h4 hh4 up4 => wpAny_throw (tk _ _ ?_)
          exact ⟨a, B, sI, pins, σ', H', cls, d, rfl, J, nb, (up.trans up3).trans up4, .inr (.inr (by rw [hs]; exact hh4)), na, os, ag, w⟩
        first
          | exact wpAny_bind (wpAny_pure (wpAny_bind fin))
          | exact wpAny_bind fin
      | @bare x c ts b₀ suite np pos' hds2 l2 hc hsu r ih =>
        intro w
        obtain ⟨b, hb1, hyes, hno⟩ := w
        refine wpAny_handleBy_cons (codeAny_handlers_test ?_) (by intro q; cases q)
        have LM := PySem.W.exm_one (M := model X.prog X.w) (J3.kIn) LT hb1
        refine test hc (LM.here ?_)
        cases b with
        | true =>
          refine codeAny_handlers_suite ?_
          refine HandSPX.lands_againZ fl3 fun h4 fl4 up4 => ?_
          have J4 : Inv X pins σ' H' { s' with heap := h4 } := J.landed nb fl4.1 ((up.trans up3).trans up4) os ag
          obtain ⟨oe4, vs4, he4, hz4, hd4⟩ := fl4.there
          have S4 := J4.suite he4 hd4 na nL nF
          refine wpAny_mono ((hsu a oe4 cls d (X.pn ++ pins) hz4 ⟨_, hd4⟩).run [] _ _ H' _ S4 (hyes rfl a na)) (fun f s6 hsp => ?_) (fun _ _ z => False.elim z)
          cases f with
          | next =>
            obtain ⟨σ6, H6, S6, q6⟩ := hsp
            exact ⟨_, _, S6.unsuite ok, q6⟩
          | brk =>
            obtain ⟨σ6, H6, S6, q6⟩ := hsp
            exact ⟨_, _, S6.unsuite ok, q6⟩
          | cont =>
            obtain ⟨σ6, H6, S6, q6⟩ := hsp
            exact ⟨_, _, S6.unsuite ok, q6⟩
          | ret u =>
            obtain ⟨v6, σ6, H6, S6, r6, q6⟩ := hsp
            exact ⟨_, _, _, S6.unsuite ok, r6, q6⟩
        | false =>
          show wpAny _ X.A (handleBy (.ref a) X.env hds2) _ _ _
          exact ih (hno rfl)
      | @as_ x n i c ts b₀ suite np pos' hds2 l2 hN hi hln hc hsu r ih =>
        intro w
        obtain ⟨b, hb1, hyes, hno⟩ := w
        have hloc : Loc X.env.scope n := .inl hln
        refine wpAny_handleBy_cons (codeAny_handlers_test ?_) (by intro q; cases q)
        have LM := PySem.W.exm_one (M := model X.prog X.w) (J3.kIn) LT hb1
        refine test hc (LM.here ?_)
        cases b with
        | true =>
          refine codeAny_handlers_suite_as ?_
          refine HandSPX.lands_againZ fl3 fun h4 fl4 up4 => ?_
          have J4 : Inv X pins σ' H' { s' with heap := h4 } := J.landed nb fl4.1 ((up.trans up3).trans up4) os ag
          obtain ⟨oe4, vs4, he4, hz4, hd4⟩ := fl4.there
          have S4 := J4.suite he4 hd4 na nL nF
          refine store_ok (X := X.suite a ((a, oe4) :: (X.pn ++ pins))) (v := .ref a) S4 hN hi hloc rfl (fun s5 S5 => ?_) (.inr hln)
          refine wpAny_mono ((hsu a oe4 cls d (X.pn ++ pins) hz4 ⟨_, hd4⟩).run [] s5 _ H' _ S5 (hyes rfl a na)) (fun f s6 hsp => ?_) (fun _ _ z => False.elim z)
          have end_ : ∀ {σ6 : St} {H6 : Hp} {Q : Shared → Prop}, Inv (X.suite a ((a, oe4) :: (X.pn ++ pins))) [] σ6 H6 s6 → (∀ s7, Inv X pins (σ6.set i none) H6 s7 → Q s7) →
              wpAny (model X.prog X.w) X.A (do bindName X.env n .none; unbindBehindTheSuite X.env n pos') (fun _ s7 => Q s7) X.xe s6 := fun {σ6 H6 Q} S6 hq => gone_ok (S6.unsuite ok) hN hi hln hq
          cases f with
          | next =>
            obtain ⟨σ6, H6, S6, q6⟩ := hsp
            exact end_ S6 fun s7 J7 => ⟨_, _, J7, q6⟩
          | brk =>
            obtain ⟨σ6, H6, S6, q6⟩ := hsp
            exact end_ S6 fun s7 J7 => ⟨_, _, J7, q6⟩
          | cont =>
            obtain ⟨σ6, H6, S6, q6⟩ := hsp
            exact end_ S6 fun s7 J7 => ⟨_, _, J7, q6⟩
          | ret u =>
            obtain ⟨v6, σ6, H6, S6, r6, q6⟩ := hsp
            exact end_ S6 fun s7 J7 => ⟨_, _, _, J7, r6, q6⟩
        | false =>
          show wpAny _ X.A (handleBy (.ref a) X.env hds2) _ _ _
          exact ih (hno rfl)
    exact go hh w
  · cases f with
    | next =>
      obtain ⟨σ', H', J', q⟩ := hsp
      exact wpAny_execs_nil ⟨σ', H', J'.ofTry ok, q⟩
    | brk =>
      obtain ⟨σ', H', J', q⟩ := hsp
      exact ⟨σ', H', J'.ofTry ok, q⟩
    | cont =>
      obtain ⟨σ', H', J', q⟩ := hsp
      exact ⟨σ', H', J'.ofTry ok, q⟩
    | ret u =>
      obtain ⟨v, σ', H', J', r, q⟩ := hsp
      exact ⟨v, σ', H', J'.ofTry ok, r, q⟩
end
/-- isinstance(e, c), e the exception that the suite holds at a: its class cls, its dict d -/
def rIsEd (K : PySem.W.Frag) (a : Addr) (cls : Value) (d : Option Addr) : List V → Hp → VK → Prop := fun xs H Q => ∃ (c : V) (cv : Value) (b : Bool) (D dd : Addr) (fs : List (Str × V)), xs = [.ref a, c] ∧ cls = .ref D ∧ ExcC K D ∧ d = some dd ∧ H dd = some (.xd fs) ∧
  (∀ u, RelV c u → u = cv) ∧ PySem.W.kitOne K (.ref D) cv = some b ∧ Q (.bl b) H
theorem call_isEd {X : Cx} {a : Addr} {cls : Value} {d : Option Addr} {oe : Obj} {pn : List (Addr × Obj)} (hz : Zc cls d oe) (hf : ∃ vs, oe.data = .fields vs) : CallR (X.suite a ((a, oe) :: pn)) (.builtin "isinstance") (rIsEd X.K a cls d) := by
  intro pins s σ H xs us Q I r h
  obtain ⟨c, cv, b, D, dd, fs, rfl, rfl, C, rfl, hdd, hcv, e, q⟩ := h
  cases r with
  | cons rx rr =>
    cases rr with
    | cons rt rr =>
      cases rr
      cases rx
      have ec := hcv _ rt
      subst ec
      obtain ⟨hget, _⟩ := I.pin (a, oe) (List.mem_append.mpr (.inl List.mem_cons_self))
      obtain ⟨vs, hv⟩ := hf
      have hx : ObjOk X.prog X.w H s.heap dd (.xd fs) := I.hok dd _ hdd
      obtain ⟨mA, hns, hr⟩ := hx
      obtain ⟨od, ho, hl⟩ := lookIn_ns hns
      have J : PySem.W.InstAt s.heap a oe D (some od) := ⟨hget, hz.1, by unfold PySem.W.notCls; rw [hv] <;> rfl, by rw [hz.2]; exact ho⟩
      have hcl : (PySem.W.clsIn X.K D).isSome = true := by
        obtain ⟨cd, hc, _⟩ := PySem.W.any_some C.hd
        rw [hc] <;> rfl
      exact PySem.W.kia_one (PySem.W.kitx_exc hcl C.hg C.hk C.hs C.ha C.hn C.ht C.hm) I.kIn J e (fun z => nomatch z) fun tk => ⟨.bl b, H, I.kept (t' := tk) fun _ _ z => z, rfl, q⟩
end L2

/-! Words of my own over HandS: promises by arity, callable defs, readings step by step. -/
namespace L2
open PySem PySem.Spec PyProof.Rows
/-! ### promises by the number of arguments -/
def sp1 (P : V → Hp → VK → XK → Prop) : Sp := fun vs H Q E => ∃ a, vs = [a] ∧ P a H Q E
def sp2 (P : V → V → Hp → VK → XK → Prop) : Sp := fun vs H Q E => ∃ a b, vs = [a, b] ∧ P a b H Q E
def sp3 (P : V → V → V → Hp → VK → XK → Prop) : Sp := fun vs H Q E => ∃ a b c, vs = [a, b, c] ∧ P a b c H Q E
def sp4 (P : V → V → V → V → Hp → VK → XK → Prop) : Sp := fun vs H Q E => ∃ a b c d, vs = [a, b, c, d] ∧ P a b c d H Q E
def sp5 (P : V → V → V → V → V → Hp → VK → XK → Prop) : Sp := fun vs H Q E => ∃ a b c d e, vs = [a, b, c, d, e] ∧ P a b c d e H Q E
theorem sp1_len {P} {vs H Q E} (h : sp1 P vs H Q E) : vs.length = 1 := by obtain ⟨_, rfl, _⟩ := h; rfl
theorem sp2_len {P} {vs H Q E} (h : sp2 P vs H Q E) : vs.length = 2 := by obtain ⟨_, _, rfl, _⟩ := h; rfl
theorem sp3_len {P} {vs H Q E} (h : sp3 P vs H Q E) : vs.length = 3 := by obtain ⟨_, _, _, rfl, _⟩ := h; rfl
theorem sp4_len {P} {vs H Q E} (h : sp4 P vs H Q E) : vs.length = 4 := by obtain ⟨_, _, _, _, rfl, _⟩ := h; rfl
theorem sp5_len {P} {vs H Q E} (h : sp5 P vs H Q E) : vs.length = 5 := by obtain ⟨_, _, _, _, _, rfl, _⟩ := h; rfl
/-! ### a def that may be called by its name -/
structure CalX (P : Program) (w : World) (K : PySem.W.Frag) (mg : Str → Option Value) (base : Heap) (CX : CXT) (k : Nat) (x : Str) (sp : Sp) : Prop where
  ex : ∃ (f : Addr) (fd : FuncData) (ps : List Str), FnOk P w K mg base CX k f fd ps sp ∧ mg x = some (.ref f) ∧ PySem.W.keepIn K (.ref f) = true ∧ Binds K fd ps []
section
variable {P : Program} {w : World} {K : PySem.W.Frag} {mg : Str → Option Value} {base : Heap}
/-- a def without try and raise -/
theorem calx0 {x : Str} {params : Arguments} {body : List Stmt} {scope : Scope} {f : Addr} {fd : FuncData} {N ps : List Str} {k : Nat} {sp : Sp} (F : FunD K x x params body scope [] [] f fd) (hm : mg x = some (.ref f)) (S : FnScope N ps scope)
    (b : Binds K fd ps []) (len : ∀ vs H Q E, sp vs H Q E → vs.length = ps.length)
    (hbody : ∀ (cdv : Value) (A : Around) (outer : List Env) (s : Shared) (H : Hp) (vs : List V) (Q : VK) (E : XK), Room k (A.deeper (envOfC x scope s.heap.objs.size f cdv)) → sp vs H Q E →
      ∃ t, PSs (cxOf CX0 P w K mg base N x scope f cdv A outer s H E).nox body t ∧ t { nx := fun _ H' => Q .non H', rt := Q } (start N vs) H) : CalX P w K mg base CX0 (k + 1) x sp :=
  ⟨f, fd, ps, F.ok S len fun cdv A outer s H vs Q E hr h => by
    obtain ⟨t, h1, h2⟩ := hbody cdv A outer s H vs Q E hr h
    exact ⟨t, h1.nox, h2⟩, hm, F.kp, b⟩
theorem calxX {CX : CXT} {x : Str} {params : Arguments} {body : List Stmt} {scope : Scope} {f : Addr} {fd : FuncData} {N ps : List Str} {k : Nat} {sp : Sp} (F : FunD K x x params body scope [] [] f fd) (hm : mg x = some (.ref f)) (S : FnScope N ps scope)
    (b : Binds K fd ps []) (len : ∀ vs H Q E, sp vs H Q E → vs.length = ps.length)
    (hbody : ∀ (cdv : Value) (A : Around) (outer : List Env) (s : Shared) (H : Hp) (vs : List V) (Q : VK) (E : XK), Room k (A.deeper (envOfC x scope s.heap.objs.size f cdv)) → sp vs H Q E →
      ∃ t, PSs (cxOf CX P w K mg base N x scope f cdv A outer s H E) body t ∧ t { nx := fun _ H' => Q .non H', rt := Q } (start N vs) H) : CalX P w K mg base CX (k + 1) x sp :=
  ⟨f, fd, ps, F.ok S len hbody, hm, F.kp, b⟩
end
section
variable {X : Cx} {CX : CXT} {k j : Nat} {x : Str} {sp : Sp} {p pos : Pos} {e : Expr} {es : List Expr} {t : TA} {E : XK} {ES : St → XK}
theorem pe_cx (c : CalX X.prog X.w X.K X.mg X.base CX k x sp) (hr : Room j X.A) (hk : k ≤ j) (hg : Gl X x) (hx : Passes CX X E) (ha : PA X (e :: es) t)
    (hdb : (x == ("__debug__" : Str)) = false := by decide) (he : starEach (e :: es) X.env = (false, eval e X.env) :: starEach es X.env := by rfl) (hpl : (backTo pos (starEach es X.env)).any (·.1) = false := by rfl) :
    PE X (.Call (.Name x p) (e :: es) [] pos) (tCall sp [] E t) := by
  obtain ⟨f, fd, ps, F, hm, kp, b⟩ := c.ex
  exact pe_call F (hr.mono hk) hg hm kp b .nil hx ha hdb he hpl
theorem pe_cx0 (c : CalX X.prog X.w X.K X.mg X.base CX k x sp) (hr : Room j X.A) (hk : k ≤ j) (hg : Gl X x) (hx : Passes CX X E) (hdb : (x == ("__debug__" : Str)) = false := by decide) :
    PE X (.Call (.Name x p) [] [] pos) (tCall sp [] E tNil) := by
  obtain ⟨f, fd, ps, F, hm, kp, b⟩ := c.ex
  exact pe_call0 F (hr.mono hk) hg hm kp b .nil hx hdb
/-- within a try -/
theorem pe_cxS (c : CalX X.prog X.w X.K X.mg X.base CX k x sp) (hr : Room j X.A) (hk : k ≤ j) (hg : Gl X x) (hx : ∀ σ, PassesAt CX X σ (ES σ)) (ha : PA X (e :: es) t)
    (hdb : (x == ("__debug__" : Str)) = false := by decide) (he : starEach (e :: es) X.env = (false, eval e X.env) :: starEach es X.env := by rfl) (hpl : (backTo pos (starEach es X.env)).any (·.1) = false := by rfl) :
    PE X (.Call (.Name x p) (e :: es) [] pos) (tCallS sp ES t) := by
  obtain ⟨f, fd, ps, F, hm, kp, b⟩ := c.ex
  exact pe_callS F (hr.mono hk) hg hm kp b hx ha hdb he hpl
/-- a name of the module, by its value -/
theorem pe_gv {v : V} (h : ∃ u, X.mg x = some u ∧ RelV v u) (hg : Gl X x := by rfl) (hd : (x == ("__debug__" : Str)) = false := by decide) : PE X (.Name x pos) (tC v) := by
  obtain ⟨u, hm, r⟩ := h
  exact pe_glob hg hm r hd
end
/-! ### more operators -/
section
variable {X : Cx}
/-- text * int -/
def rRepS : R2 := fun x y H Q => ∃ z n, x = .str z ∧ y = .int n ∧ MulOk z n ∧ Q (.str (Txt.mul z n)) H
theorem op_repS : OpR X (binaryOp .Mult) rRepS := by
  intro pins s σ H x y u v Q I rx ry h
  obtain ⟨z, n, rfl, rfl, hok, q⟩ := h
  obtain ⟨t, rfl⟩ := rx
  obtain ⟨t', rfl⟩ := ry
  exact SB.mul hok fun t1 k => ⟨.str (Txt.mul z n), H, I.tok _, ⟨_, rfl⟩, q⟩
end
/-! ### readings by name -/
section
variable {X : Cx}
def rCatS : R2 := fun x y H Q => ∃ i j, x = .str i ∧ y = .str j ∧ i.length + j.length ≤ sizeLine ∧ Q (.str (i ++ j)) H
theorem op_catS : OpR X (binaryOp .Add) rCatS := op_add_str
def rAddI : R2 := rI0 fun i j => .int (i + j)
def rSubI : R2 := rI0 fun i j => .int (i - j)
def rMulI : R2 := rI CMul fun i j => .int (i * j)
def rDivI : R2 := rI CDiv fun i j => .int (i / j)
def rModI : R2 := rI (fun _ j => 0 < j) fun i j => .int (i % j)
def rPowI : R2 := rI CPow fun i j => .int (i ^ j.toNat)
def rLtI : R2 := rI0 fun i j => .bl (decide (i < j))
def rLeI : R2 := rI0 fun i j => .bl (decide (i ≤ j))
def rGtI : R2 := rI0 fun i j => .bl (decide (j < i))
def rGeI : R2 := rI0 fun i j => .bl (decide (j ≤ i))
theorem op_addI : OpR X (binaryOp .Add) rAddI := op_add
theorem op_subI : OpR X (binaryOp .Sub) rSubI := op_sub
theorem op_mulI : OpR X (binaryOp .Mult) rMulI := op_mul
theorem op_divI : OpR X (binaryOp .FloorDiv) rDivI := op_fdiv
theorem op_modI : OpR X (binaryOp .Mod) rModI := op_mod
theorem op_powI : OpR X (binaryOp .Pow) rPowI := op_pow
theorem op_ltI : OpR X (compareOp .Lt) rLtI := op_lt
theorem op_leI : OpR X (compareOp .LtE) rLeI := op_le
theorem op_gtI : OpR X (compareOp .Gt) rGtI := op_gt
theorem op_geI : OpR X (compareOp .GtE) rGeI := op_ge
/-- one sign in a text -/
def rInC : R2 := fun x y H Q => ∃ (c : Nat) (z : Str), x = .str ⟨#[c]⟩ ∧ y = .str z ∧ Q (.bl (decide (c ∈ z.cps.toList))) H
def rNotInC : R2 := fun x y H Q => ∃ (c : Nat) (z : Str), x = .str ⟨#[c]⟩ ∧ y = .str z ∧ Q (.bl (!decide (c ∈ z.cps.toList))) H
theorem op_inC : OpR X (compareOp .In) rInC := op_in_sign
theorem op_notInC : OpR X (compareOp .NotIn) rNotInC := op_notIn_sign
def rLenQ (K : PySem.W.Frag) : List V → Hp → VK → Prop := fun xs H Q => ∃ p ys, xs = [.ref p] ∧ (SqL K H p ys ∨ SqT K H p ys) ∧ Q (.int ys.length) H
def rLenT : List V → Hp → VK → Prop := fun xs H Q => ∃ z : Str, xs = [.str z] ∧ z.length ≤ sizeLine ∧ Q (.int z.length) H
theorem call_lenQ : CallR X (.builtin "len") (rLenQ X.K) := call_len_seq
theorem call_lenT : CallR X (.builtin "len") rLenT := call_len_str
def rAbsI : List V → Hp → VK → Prop := fun xs H Q => ∃ i, xs = [.int i] ∧ Q (.int (if i < 0 then -i else i)) H
theorem call_absI : CallR X (.builtin "abs") rAbsI := call_abs
def rMaxI : List V → Hp → VK → Prop := fun xs H Q => ∃ i j, xs = [.int i, .int j] ∧ Q (.int (if j > i then j else i)) H
def rMinI : List V → Hp → VK → Prop := fun xs H Q => ∃ i j, xs = [.int i, .int j] ∧ Q (.int (if j < i then j else i)) H
theorem call_maxI (hc : X.calm = true) : CallR X (.builtin "max") rMaxI := call_max2 hc
theorem call_minI (hc : X.calm = true) : CallR X (.builtin "min") rMinI := call_min2 hc
def rIntI : List V → Hp → VK → Prop := fun xs H Q => ∃ i, xs = [.int i] ∧ Q (.int i) H
theorem call_intI : CallR X (.type "int") rIntI := fun pins s σ H xs us Q I r ⟨i, e, q⟩ => call_int1 pins s σ H xs us Q I r (.inl ⟨i, e, q⟩)
def rTupL (K : PySem.W.Frag) : List V → Hp → VK → Prop := fun xs H Q => ∃ p ys, xs = [.ref p] ∧ SqL K H p ys ∧ ∀ l, H l = none → Q (.ref l) (upd H l (.tup ys))
theorem call_tupL : CallR X (.type "tuple") (rTupL X.K) := fun pins s σ H xs us Q I r ⟨p, ys, e, h, q⟩ => call_tuple_of pins s σ H xs us Q I r ⟨p, ys, e, .inl ⟨h, q⟩⟩
def rLstQ (K : PySem.W.Frag) : List V → Hp → VK → Prop := fun xs H Q => ∃ p ys, xs = [.ref p] ∧ (SqL K H p ys ∨ SqT K H p ys) ∧ ∀ l, H l = none → Q (.ref l) (upd H l (.lst ys))
theorem call_lstQ : CallR X (.type "list") (rLstQ X.K) := call_list_of
/-- a list of the call's own -/
abbrev rIxTu := rIxT
end
/-! ### steps -/
section
variable {σ : St} {H : Hp} {i : Nat} {v x y z : V} {ta tb tc te : TE} {tt uu : TT} {tA tR : TA} {Q : VK} {QB : Bool → Hp → Prop} {QA : List V → Hp → Prop} {QO : Option Int → Hp → Prop} {D : Ends} {t u : TS} {g : TG} {r r' : R2} {K : PySem.W.Frag}
theorem w_var (e : σ[i]? = some (some v)) (h : Q v H) : tVar i σ H Q := ⟨v, e, h⟩
theorem w_c (h : Q v H) : tC v σ H Q := h
theorem w_op (h : ta σ H fun x H1 => tb σ H1 fun y H2 => r x y H2 Q) : tOp r ta tb σ H Q := h
theorem w_un {ru : V → Hp → VK → Prop} (h : ta σ H fun x H1 => ru x H1 Q) : tUn ru ta σ H Q := h
theorem w_seq (h : t { D with nx := u D } σ H) : tSeq t u D σ H := h
theorem w_next (h : D.nx σ H) : tNext D σ H := h
theorem w_brk (h : D.bk σ H) : tBreak D σ H := h
theorem w_cnt (h : D.ct σ H) : tCont D σ H := h
theorem w_asgN (h : te σ H fun x H1 => D.nx (σ.set i (some x)) H1) : tAsg te (gName i) D σ H := h
theorem w_asg (h : te σ H fun x H1 => g x σ H1 D.nx) : tAsg te g D σ H := h
theorem w_aug {ti : TIp} (e : σ[i]? = some (some x)) (h : te σ H fun y H1 => ti x y H1 fun z H2 => D.nx (σ.set i (some z)) H2) : tAug i te ti D σ H := ⟨x, e, h⟩
theorem w_ipI {f : Int → Int → Int} {a b : Int} (h : Q (.int (f a b)) H) : ipI f (.int a) (.int b) H Q := ⟨a, b, rfl, rfl, h⟩
theorem w_ret (h : te σ H D.rt) : tRet te D σ H := h
theorem w_retN (h : D.rt .non H) : tRetN D σ H := h
theorem w_drop (h : te σ H fun _ H1 => D.nx σ H1) : tDrop te D σ H := h
theorem w_ifS (h : tt σ H fun b H1 => if b = true then t D σ H1 else u D σ H1) : tIfS tt t u D σ H := h
theorem w_if (h : tt σ H fun b H1 => if b = true then ta σ H1 Q else tb σ H1 Q) : tIf tt ta tb σ H Q := h
theorem w_test (h : te σ H fun x H' => ∃ k, x = .bl k ∧ QB k H') : tTest te σ H QB := h
theorem w_tB (h : te σ H fun x H' => ∃ k, x = .bl k ∧ QB k H') : tB te σ H QB := h
theorem w_bl {b : Bool} {F : Bool → Prop} (h : F b) : ∃ k, V.bl b = .bl k ∧ F k := ⟨b, rfl, h⟩
theorem w_and (h : tt σ H fun c H1 => if c = true then uu σ H1 QB else QB false H1) : tAnd tt uu σ H QB := h
theorem w_or (h : tt σ H fun c H1 => if c = true then QB true H1 else uu σ H1 QB) : tOr tt uu σ H QB := h
theorem w_not (h : tt σ H fun c H1 => QB (!c) H1) : tNot tt σ H QB := h
theorem w_andV (h : ta σ H fun x H1 => ∃ c, x = .bl c ∧ if c = true then tb σ H1 Q else Q (.bl false) H1) : tAndV ta tb σ H Q := h
theorem w_orV (h : ta σ H fun x H1 => ∃ c, x = .bl c ∧ if c = true then Q (.bl true) H1 else tb σ H1 Q) : tOrV ta tb σ H Q := h
theorem w_notV (h : ta σ H fun x H1 => ∃ c, x = .bl c ∧ Q (.bl (!c)) H1) : tNotV ta σ H Q := h
theorem w_blI {b : Bool} {F : Bool → Prop} (h : F b) : ∃ c, V.bl b = .bl c ∧ F c := ⟨b, rfl, h⟩
theorem w_nil (h : QA [] H) : tNil σ H QA := h
theorem w_cons (h : te σ H fun x H1 => tR σ H1 fun xs H2 => QA (x :: xs) H2) : tCons te tR σ H QA := h
theorem w_cb {rc : List V → Hp → VK → Prop} (h : tA σ H fun vs H1 => rc vs H1 Q) : tCB rc tA σ H Q := h
theorem w_call {sp : Sp} {E : XK} (h : tA σ H fun vs H1 => sp vs H1 Q E) : tCall sp [] E tA σ H Q := by
  have e : tCall sp [] E tA σ H Q = tA σ H fun vs H1 => sp (vs ++ []) H1 Q E := rfl
  rw [e]
  simpa only [List.append_nil] using h
theorem w_callS {sp : Sp} {ES : St → XK} (h : tA σ H fun vs H1 => sp vs H1 Q (ES σ)) : tCallS sp ES tA σ H Q := h
theorem w_chain (h : ta σ H fun x H1 => tb σ H1 fun y H2 => r x y H2 fun z H3 => ∃ k, z = .bl k ∧ (if k = true then tc σ H3 fun w' H4 => r' y w' H4 Q else Q (.bl false) H3)) : tChain r r' ta tb tc σ H Q := h
theorem w_tup (h : tA σ H fun xs H1 => xs.length ≤ sizeLine ∧ ∀ p, H1 p = none → Q (.ref p) (upd H1 p (.tup xs))) : tTup tA σ H Q := h
theorem w_lst (h : tA σ H fun xs H1 => xs.length ≤ sizeLine ∧ ∀ p, H1 p = none → Q (.ref p) (upd H1 p (.lst xs))) : tLst tA σ H Q := h
theorem w_new {vs : List V} {F : Addr → Prop} (hz : vs.length ≤ 4096) (h : ∀ p, H p = none → F p) : vs.length ≤ sizeLine ∧ ∀ p, H p = none → F p := ⟨Nat.le_trans hz (by decide), h⟩
theorem w_sl {rs : V → Option Int → Option Int → Hp → VK → Prop} {tl th : TO} (h : te σ H fun x H1 => tl σ H1 fun l H2 => th σ H2 fun u H3 => rs x l u H3 Q) : tSl rs te tl th σ H Q := h
theorem w_noPart (h : QO none H) : tNoPart σ H QO := h
theorem w_part (h : te σ H fun x H1 => ∃ i, x = .int i ∧ QO (some i) H1) : tPart te σ H QO := h
theorem w_partI {n : Int} {F : Int → Prop} (h : F n) : ∃ i, V.int n = .int i ∧ F i := ⟨n, rfl, h⟩
theorem w_I0 {f : Int → Int → V} {a b : Int} (h : Q (f a b) H) : rI0 f (.int a) (.int b) H Q := ⟨a, b, rfl, rfl, h⟩
theorem w_addI {a b : Int} (h : Q (.int (a + b)) H) : rAddI (.int a) (.int b) H Q := ⟨a, b, rfl, rfl, h⟩
theorem w_subI {a b : Int} (h : Q (.int (a - b)) H) : rSubI (.int a) (.int b) H Q := ⟨a, b, rfl, rfl, h⟩
theorem w_mulI {a b : Int} (hc : CMul a b) (h : Q (.int (a * b)) H) : rMulI (.int a) (.int b) H Q := ⟨a, b, rfl, rfl, hc, h⟩
theorem w_divI {a b : Int} (hc : CDiv a b) (h : Q (.int (a / b)) H) : rDivI (.int a) (.int b) H Q := ⟨a, b, rfl, rfl, hc, h⟩
theorem w_modI {a b : Int} (hc : 0 < b) (h : Q (.int (a % b)) H) : rModI (.int a) (.int b) H Q := ⟨a, b, rfl, rfl, hc, h⟩
theorem w_powI {a b : Int} (hc : CPow a b) (h : Q (.int (a ^ b.toNat)) H) : rPowI (.int a) (.int b) H Q := ⟨a, b, rfl, rfl, hc, h⟩
theorem w_ltI {a b : Int} (h : Q (.bl (decide (a < b))) H) : rLtI (.int a) (.int b) H Q := ⟨a, b, rfl, rfl, h⟩
theorem w_leI {a b : Int} (h : Q (.bl (decide (a ≤ b))) H) : rLeI (.int a) (.int b) H Q := ⟨a, b, rfl, rfl, h⟩
theorem w_gtI {a b : Int} (h : Q (.bl (decide (b < a))) H) : rGtI (.int a) (.int b) H Q := ⟨a, b, rfl, rfl, h⟩
theorem w_geI {a b : Int} (h : Q (.bl (decide (b ≤ a))) H) : rGeI (.int a) (.int b) H Q := ⟨a, b, rfl, rfl, h⟩
theorem w_eqI {a b : Int} (h : Q (.bl (decide (a = b))) H) : rEq (.int a) (.int b) H Q := ⟨rfl, by
  have e : decide (V.int a = V.int b) = decide (a = b) := by simp
  rw [e]; exact h⟩
theorem w_neI {a b : Int} (h : Q (.bl (!decide (a = b))) H) : rNe (.int a) (.int b) H Q := ⟨rfl, by
  have e : decide (V.int a = V.int b) = decide (a = b) := by simp
  rw [e]; exact h⟩
theorem w_eqS {a b : Str} (h : Q (.bl (decide (a = b))) H) : rEq (.str a) (.str b) H Q := ⟨rfl, by
  have e : decide (V.str a = V.str b) = decide (a = b) := by simp
  rw [e]; exact h⟩
theorem w_neS {a b : Str} (h : Q (.bl (!decide (a = b))) H) : rNe (.str a) (.str b) H Q := ⟨rfl, by
  have e : decide (V.str a = V.str b) = decide (a = b) := by simp
  rw [e]; exact h⟩
theorem w_catS {a b : Str} (hz : a.length + b.length ≤ sizeLine) (h : Q (.str (a ++ b)) H) : rCatS (.str a) (.str b) H Q := ⟨a, b, rfl, rfl, hz, h⟩
theorem w_repS {a : Str} {n : Int} (hz : MulOk a n) (h : Q (.str (Txt.mul a n)) H) : rRepS (.str a) (.int n) H Q := ⟨a, n, rfl, rfl, hz, h⟩
theorem w_inC {c : Nat} {z : Str} (h : Q (.bl (decide (c ∈ z.cps.toList))) H) : rInC (.str ⟨#[c]⟩) (.str z) H Q := ⟨c, z, rfl, rfl, h⟩
theorem w_notInC {c : Nat} {z : Str} (h : Q (.bl (!decide (c ∈ z.cps.toList))) H) : rNotInC (.str ⟨#[c]⟩) (.str z) H Q := ⟨c, z, rfl, rfl, h⟩
theorem w_lenT {z : Str} (hz : z.length ≤ sizeLine) (h : Q (.int z.length) H) : rLenT [.str z] H Q := ⟨z, rfl, hz, h⟩
theorem w_lenL {p : Addr} {ys : List V} (hs : SqL K H p ys) (h : Q (.int ys.length) H) : rLenQ K [.ref p] H Q := ⟨p, ys, rfl, .inl hs, h⟩
theorem w_lenU {p : Addr} {ys : List V} (hs : SqT K H p ys) (h : Q (.int ys.length) H) : rLenQ K [.ref p] H Q := ⟨p, ys, rfl, .inr hs, h⟩
theorem w_absI {a : Int} (h : Q (.int (if a < 0 then -a else a)) H) : rAbsI [.int a] H Q := ⟨a, rfl, h⟩
theorem w_intI {a : Int} (h : Q (.int a) H) : rIntI [.int a] H Q := ⟨a, rfl, h⟩
theorem w_maxI {a b : Int} (h : Q (.int (if b > a then b else a)) H) : rMaxI [.int a, .int b] H Q := ⟨a, b, rfl, h⟩
theorem w_minI {a b : Int} (h : Q (.int (if b < a then b else a)) H) : rMinI [.int a, .int b] H Q := ⟨a, b, rfl, h⟩
theorem w_ixL {p : Addr} {xs : List V} {n : Nat} (hs : SqL K H p xs) (e : xs[n]? = some v) (h : Q v H) : rIxL K (.ref p) (.int (n : Int)) H Q := ⟨p, xs, n, v, rfl, rfl, hs, atI_nat e, h⟩
theorem w_ixU {p : Addr} {xs : List V} {n : Nat} (hs : SqT K H p xs) (e : xs[n]? = some v) (h : Q v H) : rIxT K (.ref p) (.int (n : Int)) H Q := ⟨p, xs, n, v, rfl, rfl, hs, atI_nat e, h⟩
theorem w_ixS {l : List Nat} {n : Nat} {c : Nat} (hz : l.length ≤ sizeLine) (e : l[n]? = some c) (h : Q (.str ⟨#[c]⟩) H) : rIxS (.str (SX.S l)) (.int (n : Int)) H Q := ⟨_, _, c, rfl, rfl, by rw [SX.S_len]; exact hz, atI_nat e, h⟩
theorem w_setL {p : Addr} {xs : List V} {k : Nat} {F : Hp → Prop} (hp : H p = some (.lst xs)) (hk : k < xs.length) (h : F (upd H p (.lst (xs.set k v)))) : rSetL (.ref p) (.int (k : Int)) v H F :=
  ⟨p, xs, k, k, rfl, rfl, hp, by unfold ixN; rw [if_pos (by omega), if_pos (by omega)]; rfl, h⟩
theorem w_gSub {ts : TSet} {F : St → Hp → Prop} (h : ta σ H fun o H1 => tb σ H1 fun i H2 => ts o i v H2 fun H3 => F σ H3) : gSub ta tb ts v σ H F := h
theorem w_bm {T : String} {rm : V → List V → Hp → VK → Prop} (h : te σ H fun x H1 => tyV K T x H1 ∧ tA σ H1 fun xs H2 => rm x xs H2 Q) : tBM K T rm te tA σ H Q := h
theorem w_bm0 {T : String} {rm : V → List V → Hp → VK → Prop} (h : te σ H fun x H1 => tyV K T x H1 ∧ rm x [] H1 Q) : tBM0 K T rm te σ H Q := h
theorem w_lstTy {p : Addr} {xs : List V} {F : Prop} (hp : H p = some (.lst xs)) (h : F) : tyV K "list" (.ref p) H ∧ F := ⟨.inl ⟨rfl, _, SqL.of hp⟩, h⟩
theorem w_app {p : Addr} {xs : List V} (hp : H p = some (.lst xs)) (hz : xs.length < sizeLine) (h : Q .non (upd H p (.lst (xs ++ [v])))) : rAppend (.ref p) [v] H Q := ⟨p, xs, v, rfl, rfl, hp, hz, h⟩
theorem w_dec {p : Prop} {inst : Decidable p} {A B : Prop} (h1 : p → A) (h2 : ¬ p → B) : if @decide p inst = true then A else B := by
  by_cases h : p
  · rw [if_pos (decide_eq_true h)]; exact h1 h
  · rw [if_neg (by simp [h])]; exact h2 h
theorem w_ndec {p : Prop} {inst : Decidable p} {A B : Prop} (h1 : ¬ p → A) (h2 : p → B) : if (!@decide p inst) = true then A else B := by
  by_cases h : p
  · rw [if_neg (by simp [h])]; exact h2 h
  · rw [if_pos (by simp [h])]; exact h1 h
theorem w_b {b : Bool} {A B : Prop} (h1 : b = true → A) (h2 : b = false → B) : if b = true then A else B := by
  cases b with
  | true => rw [if_pos rfl]; exact h1 rfl
  | false => rw [if_neg Bool.false_ne_true]; exact h2 rfl
theorem w_t {A B : Prop} (h : A) : if true = true then A else B := by rw [if_pos rfl]; exact h
theorem w_f {A B : Prop} (h : B) : if false = true then A else B := by rw [if_neg Bool.false_ne_true]; exact h
end
theorem w_nt {A B : Prop} (h : B) : if (!true) = true then A else B := h
theorem w_nf {A B : Prop} (h : A) : if (!false) = true then A else B := h
section
variable {f b c : St → Hp → Prop} {r : VK} {σ : St} {H : Hp} {v : V}
theorem w_nx (h : f σ H) : Ends.nx ⟨f, r, b, c⟩ σ H := h
theorem w_rt (h : r v H) : Ends.rt ⟨f, r, b, c⟩ v H := h
theorem w_bk (h : b σ H) : Ends.bk ⟨f, r, b, c⟩ σ H := h
theorem w_ct (h : c σ H) : Ends.ct ⟨f, r, b, c⟩ σ H := h
end
/-- the body of a def, its slots written out -/
theorem start1 (n : Str) (N : List Str) (v : V) : start (n :: N) [v] = some v :: List.replicate N.length none := rfl
/-- a word between a statement and the rest -/
theorem w_mid {t u : TS} {D : Ends} {σ : St} {H : Hp} (Mid : St → Hp → Prop) (h : t { D with nx := Mid } σ H) (k : ∀ σ' H', Mid σ' H' → u D σ' H') : Evl.tCut t u D σ H := ⟨Mid, h, k⟩
/-! ### loops -/
section
variable {σ : St} {H : Hp} {v : V} {te : TE} {tA : TA} {tc : TT} {D : Ends} {tb : TS} {g : TG} {wi : TI} {K : PySem.W.Frag} {R : It → Hp → Prop}
theorem w_for (h : wi σ H fun J H1 => ∃ W : Nat → Nat → St → Hp → Prop, (∃ m, W 0 m σ H1) ∧ ∀ i m σ H, W i m σ H →
    (J.stop i H ∧ D.nx σ H) ∨ (J.go i H ∧ ∃ N : St → Hp → Prop, (∀ σ' H', N σ' H' → ∃ m', m' < m ∧ W (i + 1) m' σ' H') ∧ ∀ x H', J.yld i H x H' → g x σ H' fun σ2 H2 => tb { D with nx := N, ct := N, bk := D.nx } σ2 H2)) : tFor wi g tb D σ H := h
theorem w_iR1 (h : tA σ H fun vs H1 => ∃ j : Int, vs = [.int j] ∧ -(2 ^ 62) ≤ j ∧ j < 2 ^ 62 ∧ R (Itr 0 j.toNat) H1) : iRng1 tA σ H R := h
theorem w_iR2 (h : tA σ H fun vs H1 => ∃ i j : Int, vs = [.int i, .int j] ∧ (-(2 ^ 62) ≤ i ∧ i < 2 ^ 62 ∧ -(2 ^ 62) ≤ j ∧ j < 2 ^ 62) ∧ R (Itr i (j - i).toNat) H1) : iRng2 tA σ H R := h
theorem w_rg1 {n : Int} {F : Int → Prop} (h1 : -(2 ^ 62) ≤ n) (h2 : n < 2 ^ 62) (h : F n) : ∃ j : Int, [V.int n] = [.int j] ∧ -(2 ^ 62) ≤ j ∧ j < 2 ^ 62 ∧ F j := ⟨n, rfl, h1, h2, h⟩
theorem w_rg2 {a b : Int} {F : Int → Int → Prop} (h1 : -(2 ^ 62) ≤ a ∧ a < 2 ^ 62 ∧ -(2 ^ 62) ≤ b ∧ b < 2 ^ 62) (h : F a b) : ∃ i j : Int, [V.int a, V.int b] = [.int i, .int j] ∧ (-(2 ^ 62) ≤ i ∧ i < 2 ^ 62 ∧ -(2 ^ 62) ≤ j ∧ j < 2 ^ 62) ∧ F i j := ⟨a, b, rfl, h1, h⟩
theorem w_iStr (h : te σ H fun v H1 => ∃ x, v = .str x ∧ R (Its x) H1) : iStr te σ H R := h
theorem w_strI {z : Str} {F : Str → Prop} (h : F z) : ∃ x, V.str z = .str x ∧ F x := ⟨z, rfl, h⟩
theorem w_iList (h : te σ H fun x H1 => ∃ a, x = .ref a ∧ (∃ xs, SqL K H1 a xs) ∧ R (Itl K a) H1) : iList K te σ H R := h
theorem w_lstI {a : Addr} {xs : List V} {F : Addr → Prop} (hs : SqL K H a xs) (h : F a) : ∃ b, V.ref a = .ref b ∧ (∃ xs, SqL K H b xs) ∧ F b := ⟨a, rfl, ⟨xs, hs⟩, h⟩
theorem w_iTup (h : te σ H fun x H1 => ∃ a, x = .ref a ∧ (∃ xs, SqT K H1 a xs) ∧ R (Itt K a) H1) : iTup K te σ H R := h
theorem w_tupI {a : Addr} {xs : List V} {F : Addr → Prop} (hs : SqT K H a xs) (h : F a) : ∃ b, V.ref a = .ref b ∧ (∃ xs, SqT K H b xs) ∧ F b := ⟨a, rfl, ⟨xs, hs⟩, h⟩
theorem for_str {l : List Nat} (Pv : Nat → St → Hp → Prop) (h0 : Pv 0 σ H)
    (hs : ∀ i c σ H, l[i]? = some c → Pv i σ H → g (.str ⟨#[c]⟩) σ H fun σ2 H2 => tb { D with nx := Pv (i + 1), ct := Pv (i + 1), bk := D.nx } σ2 H2) (hd : ∀ σ H, Pv l.length σ H → D.nx σ H) :
    ∃ W : Nat → Nat → St → Hp → Prop, (∃ m, W 0 m σ H) ∧ ∀ i m σ H, W i m σ H →
      ((Its (SX.S l)).stop i H ∧ D.nx σ H) ∨ ((Its (SX.S l)).go i H ∧ ∃ N : St → Hp → Prop, (∀ σ' H', N σ' H' → ∃ m', m' < m ∧ W (i + 1) m' σ' H') ∧ ∀ x H', (Its (SX.S l)).yld i H x H' → g x σ H' fun σ2 H2 => tb { D with nx := N, ct := N, bk := D.nx } σ2 H2) := by
  have sz : (SX.S l).cps.size = l.length := by simp [SX.S]
  refine ⟨fun i m σ H => m = l.length - i ∧ i ≤ l.length ∧ Pv i σ H, ⟨l.length, by simp, Nat.zero_le _, h0⟩, ?_⟩
  rintro i m σ H ⟨rfl, hi, p⟩
  by_cases hlt : i < l.length
  · refine .inr ⟨by show i < (SX.S l).cps.size; rw [sz]; exact hlt, Pv (i + 1), fun σ' H' p' => ⟨l.length - (i + 1), by omega, rfl, hlt, p'⟩, fun x H' y => ?_⟩
    obtain ⟨e, c, hc, rfl⟩ := y
    subst e
    refine hs i c σ _ ?_ p
    have : (SX.S l).cps[i]? = some c := hc
    simpa [SX.S] using this
  · have e : i = l.length := by omega
    subst e
    exact .inl ⟨by show (SX.S l).cps.size ≤ l.length; rw [sz]; exact Nat.le_refl _, hd σ H p⟩
theorem w_whl (W : Nat → St → Hp → Prop) (m0 : Nat) (h0 : W m0 σ H) (hs : ∀ m σ H, W m σ H → tc σ H fun b H1 => if b = true then ∃ N : St → Hp → Prop, (∀ σ' H', N σ' H' → ∃ m', m' < m ∧ W m' σ' H') ∧ tb { D with nx := N, ct := N, bk := D.nx } σ H1 else D.nx σ H1) : tWhile tc tb D σ H :=
  ⟨W, ⟨m0, h0⟩, hs⟩
theorem w_turn {W : Nat → St → Hp → Prop} {m : Nat} (h : tb { D with nx := fun σ' H' => ∃ m', m' < m ∧ W m' σ' H', ct := fun σ' H' => ∃ m', m' < m ∧ W m' σ' H', bk := D.nx } σ H) : ∃ N : St → Hp → Prop, (∀ σ' H', N σ' H' → ∃ m', m' < m ∧ W m' σ' H') ∧ tb { D with nx := N, ct := N, bk := D.nx } σ H := ⟨_, fun _ _ z => z, h⟩
end
/-! ### texts -/
theorem S_eq {a b : List Nat} : SX.S a = SX.S b ↔ a = b := ⟨SX.S_inj, fun e => by rw [e]⟩
theorem S_ofs {s : String} {l : List Nat} (h : (Str.ofString s).cps.toList = l) : Str.ofString s = SX.S l := by
  rw [← h, SX.S_tl]
theorem S_get (l : List Nat) : (SX.S l).cps.toList = l := by simp [SX.S]
theorem inV_S (a : List Nat) : ∀ rs : List (List Nat), inV (.str (SX.S a)) (rs.map fun r => V.str (SX.S r)) = decide (a ∈ rs)
  | [] => rfl
  | r :: rs => by
    have ih := inV_S a rs
    unfold inV at ih ⊢
    rw [List.map_cons, List.any_cons, ih]
    show ((SX.S r == SX.S a) || decide (a ∈ rs)) = decide (a ∈ r :: rs)
    rw [SX.S_beq_eq]
    by_cases h : a = r
    · subst h; simp
    · have h' : ¬ r = a := fun z => h z.symm
      simp [h, h']
theorem flat_S (rs : List (List Nat)) : (rs.map fun r => V.str (SX.S r)).all flatV = true := by
  rw [List.all_map]
  exact List.all_eq_true.mpr fun _ _ => rfl
/-- x in a table of texts -/
theorem w_inTab {K : PySem.W.Frag} {H : Hp} {Q : VK} {p : Addr} {a : List Nat} {xs : List V} {rs : List (List Nat)} (hs : SqT K H p xs) (e : xs = rs.map fun r => V.str (SX.S r)) (h : Q (.bl (decide (a ∈ rs))) H) : rIn K false (.str (SX.S a)) (.ref p) H Q := by
  subst e
  refine ⟨p, _, rfl, .inr hs, rfl, flat_S rs, ?_⟩
  rw [inV_S]
  exact h
theorem w_inLst {K : PySem.W.Frag} {H : Hp} {Q : VK} {p : Addr} {a : List Nat} {xs : List V} {rs : List (List Nat)} (hs : SqL K H p xs) (e : xs = rs.map fun r => V.str (SX.S r)) (h : Q (.bl (decide (a ∈ rs))) H) : rIn K false (.str (SX.S a)) (.ref p) H Q := by
  subst e
  refine ⟨p, _, rfl, .inl hs, rfl, flat_S rs, ?_⟩
  rw [inV_S]
  exact h
/-- slices of texts: a whole number from 0 on, on both sides -/
theorem cut_S (l : List Nat) (a b : Option Nat) : cutS (SX.S l) (a.map Int.ofNat) (b.map Int.ofNat) = SX.S ((l.drop (a.getD 0)).take (b.getD l.length - a.getD 0)) := by
  have hl : (SX.S l).length = l.length := SX.S_len l
  have six : ∀ (n d : Nat) (o : Option Nat), d ≤ n → HT.sIx n d (o.map Int.ofNat) = min (o.getD d) n := by
    intro n d o hd
    cases o with
    | none => show d = min d n; omega
    | some k => exact HT.sIx_nat n d k
  unfold cutS
  rw [hl, six _ _ _ (Nat.zero_le _), six _ _ _ (Nat.le_refl _), S_get]
  congr 1
  apply congrArg
  apply List.ext_getElem?
  intro i
  simp only [List.getElem?_take, List.getElem?_drop]
  by_cases h1 : i < min (b.getD l.length) l.length - min (a.getD 0) l.length
  · rw [if_pos h1, if_pos (by omega), show min (a.getD 0) l.length + i = a.getD 0 + i by omega]
  · rw [if_neg h1]
    by_cases h2 : i < b.getD l.length - a.getD 0
    · rw [if_pos h2, List.getElem?_eq_none (by omega)]
    · rw [if_neg h2]
theorem w_cutS {H : Hp} {Q : VK} {l : List Nat} {a b : Nat} (hz : l.length ≤ sizeLine) (h : Q (.str (SX.S ((l.drop a).take (b - a)))) H) : rSlS (.str (SX.S l)) (some (a : Int)) (some (b : Int)) H Q :=
  ⟨_, rfl, by rw [SX.S_len]; exact hz, by have e := cut_S l (some a) (some b); rw [show (some (a : Int)) = (some a).map Int.ofNat from rfl, show (some (b : Int)) = (some b).map Int.ofNat from rfl, e]; exact h⟩
theorem w_cutTo {H : Hp} {Q : VK} {l : List Nat} {b : Nat} (hz : l.length ≤ sizeLine) (h : Q (.str (SX.S (l.take b))) H) : rSlS (.str (SX.S l)) none (some (b : Int)) H Q :=
  ⟨_, rfl, by rw [SX.S_len]; exact hz, by have e := cut_S l none (some b); rw [show (none : Option Int) = (none : Option Nat).map Int.ofNat from rfl, show (some (b : Int)) = (some b).map Int.ofNat from rfl, e]; exact h⟩
theorem w_cutFrom {H : Hp} {Q : VK} {l : List Nat} {a : Nat} (hz : l.length ≤ sizeLine) (h : Q (.str (SX.S (l.drop a))) H) : rSlS (.str (SX.S l)) (some (a : Int)) none H Q :=
  ⟨_, rfl, by rw [SX.S_len]; exact hz, by
    have e := cut_S l (some a) none
    rw [show (some (a : Int)) = (some a).map Int.ofNat from rfl, show (none : Option Int) = (none : Option Nat).map Int.ofNat from rfl, e]
    have z : (l.drop ((some a).getD 0)).take ((none : Option Nat).getD l.length - (some a).getD 0) = l.drop a := by
      show (l.drop a).take (l.length - a) = l.drop a
      exact List.take_of_length_le (by rw [List.length_drop]; omega)
    rw [z]; exact h⟩
theorem S_app (a b : List Nat) : SX.S a ++ SX.S b = SX.S (a ++ b) := SX.S_cat a b
theorem w_catT {H : Hp} {Q : VK} {a b : List Nat} (hz : a.length + b.length ≤ sizeLine) (h : Q (.str (SX.S (a ++ b))) H) : rCatS (.str (SX.S a)) (.str (SX.S b)) H Q := ⟨_, _, rfl, rfl, by rw [SX.S_len, SX.S_len]; exact hz, by rw [S_app]; exact h⟩
theorem w_lenS {H : Hp} {Q : VK} {l : List Nat} (hz : l.length ≤ sizeLine) (h : Q (.int (l.length : Int)) H) : rLenT [.str (SX.S l)] H Q := ⟨_, rfl, by rw [SX.S_len]; exact hz, by rw [SX.S_len]; exact h⟩
theorem w_eqT {H : Hp} {Q : VK} {a b : List Nat} (h : Q (.bl (decide (a = b))) H) : rEq (.str (SX.S a)) (.str (SX.S b)) H Q := ⟨rfl, by
  have e : decide (V.str (SX.S a) = V.str (SX.S b)) = decide (a = b) := by
    by_cases z : a = b
    · subst z; simp
    · simp only [V.str.injEq, S_eq]
  rw [e]; exact h⟩
theorem w_neT {H : Hp} {Q : VK} {a b : List Nat} (h : Q (.bl (!decide (a = b))) H) : rNe (.str (SX.S a)) (.str (SX.S b)) H Q := ⟨rfl, by
  have e : decide (V.str (SX.S a) = V.str (SX.S b)) = decide (a = b) := by
    by_cases z : a = b
    · subst z; simp
    · simp only [V.str.injEq, S_eq]
  rw [e]; exact h⟩
theorem w_inS {H : Hp} {Q : VK} {c : Nat} {l : List Nat} (h : Q (.bl (decide (c ∈ l))) H) : rInC (.str ⟨#[c]⟩) (.str (SX.S l)) H Q := ⟨c, _, rfl, rfl, by rw [S_get]; exact h⟩
theorem w_ninS {H : Hp} {Q : VK} {c : Nat} {l : List Nat} (h : Q (.bl (!decide (c ∈ l))) H) : rNotInC (.str ⟨#[c]⟩) (.str (SX.S l)) H Q := ⟨c, _, rfl, rfl, by rw [S_get]; exact h⟩
theorem flatten_rep (xs : Array Nat) : ∀ (n : Nat) (acc : Array Nat), ((List.replicate n xs).foldl (· ++ ·) acc).toList = acc.toList ++ (List.replicate n xs.toList).flatten
  | 0, acc => by simp
  | n + 1, acc => by
    rw [List.replicate_succ, List.foldl_cons, flatten_rep xs n, Array.toList_append, List.replicate_succ, List.flatten_cons, List.append_assoc]
theorem mul_S (l : List Nat) (n : Nat) : Txt.mul (SX.S l) (n : Int) = SX.S ((List.replicate n l).flatten) := by
  unfold Txt.mul
  by_cases h1 : (n : Int) < 1
  · rw [if_pos h1]
    have e : n = 0 := by omega
    subst e; rfl
  · rw [if_neg h1]
    by_cases h2 : ((n : Int) == 1 || (SX.S l).length == 0) = true
    · rw [if_pos h2]
      rw [Bool.or_eq_true, beq_iff_eq, beq_iff_eq, SX.S_len] at h2
      rcases h2 with h2 | h2
      · have e : n = 1 := by omega
        subst e; simp
      · have e : l = [] := List.length_eq_zero_iff.mp h2
        subst e
        have z : (List.replicate n ([] : List Nat)).flatten = [] := by simp
        rw [z]
    · rw [if_neg h2, Int.toNat_natCast]
      have e := flatten_rep (SX.S l).cps n #[]
      rw [S_get] at e
      show (⟨_⟩ : Str) = SX.S _
      apply TL.ext_tl
      show ((List.replicate n (SX.S l).cps).foldl (· ++ ·) #[]).toList = _
      rw [e]
      simp [TL.tl, SX.S]
theorem w_repT {H : Hp} {Q : VK} {l : List Nat} {n : Nat} (hz : l.length * n ≤ 1000000) (h : Q (.str (SX.S ((List.replicate n l).flatten))) H) (hn : n ≤ 1000000 := by omega) : rRepS (.str (SX.S l)) (.int (n : Int)) H Q := by
  refine ⟨_, _, rfl, rfl, ⟨?_, fun h1 h2 => ?_, fun h1 h2 => ?_⟩, by rw [mul_S]; exact h⟩
  · rw [decide_eq_false (by omega), decide_eq_false (by omega)]; rfl
  · rw [SX.S_len]
    have h3 : (0 : Int) < n := by omega
    have h4 : (l.length : Int) * n ≤ 1000000 := by
      have z : ((l.length * n : Nat) : Int) ≤ ((1000000 : Nat) : Int) := Int.ofNat_le.mpr hz
      rw [Int.natCast_mul] at z
      exact z
    have h5 : (l.length : Int) ≤ (2 ^ 63 - 1) / (n : Int) := Int.le_ediv_of_mul_le h3 (by omega)
    omega
  · rw [SX.S_len, Int.toNat_natCast]
    show decide (l.length * n > sizeLine) = false
    rw [sizeLine_eq]
    exact decide_eq_false (by omega)
/-! ### isinstance -/
theorem w_isi {K : PySem.W.Frag} {H : Hp} {Q : VK} {x : V} {t : Value} {n : String} {b : Bool} (ty : TyX K H x t) (k : PySem.W.kitOne K t (.type n) = some b) (h : Q (.bl b) H) : rIsi K [x, .ty n] H Q := ⟨x, .ty n, t, .type n, b, rfl, .ty n, ty, k, h⟩
theorem kit_ss {K : PySem.W.Frag} : PySem.W.kitOne K (.type "str") (.type "str") = some true := kit_ty (by decide +kernel)
theorem kit_ii {K : PySem.W.Frag} : PySem.W.kitOne K (.type "int") (.type "int") = some true := kit_ty (by decide +kernel)
theorem kit_ib {K : PySem.W.Frag} : PySem.W.kitOne K (.type "int") (.type "bool") = some false := kit_ty (by decide +kernel)
theorem kit_tt {K : PySem.W.Frag} : PySem.W.kitOne K (.type "tuple") (.type "tuple") = some true := kit_ty (by decide +kernel)
end L2

/-! Steps for comprehensions, list slices, list sums. -/
namespace L2
open PySem PySem.Spec PyProof.Rows
section
variable {σ : St} {H : Hp} {Q : VK} {QB : Bool → Hp → Prop} {K : PySem.W.Frag} {D : Ends}
theorem w_yes (h : QB true H) : tYes σ H QB := h
theorem w_lc {wi : TI} {g : TG} {tt : TT} {te : TE} {vs : List Nat} (h : wi σ H fun J H1 => ∀ D, H1 D = none → ∃ W : Nat → Nat → Hp → Prop, (∃ m, W 0 m (upd H1 D (.lst []))) ∧ ∀ i m H, W i m H →
  (J.stop i H ∧ Q (.ref D) H) ∨ (J.go i H ∧ ∃ Nx : Hp → Prop, (∀ H', Nx H' → ∃ m', m' < m ∧ W (i + 1) m' H') ∧ ∀ x H', J.yld i H x H' → g x (wipe σ vs) H' fun σ2 H2 => wipe σ2 vs = wipe σ vs ∧ tt σ2 H2 fun b H3 =>
    if b = true then te σ2 H3 fun y H4 => ∃ acc, H4 D = some (.lst acc) ∧ acc.length < sizeLine ∧ Nx (upd H4 D (.lst (acc ++ [y]))) else Nx H3)) : tLc wi g tt te vs σ H Q := h
theorem w_neg {f : Int → V} {a : Int} (h : Q (f a) H) : rU f (.int a) H Q := ⟨a, rfl, h⟩
theorem cut_V (l : List V) (a b : Option Nat) : cutV l (a.map Int.ofNat) (b.map Int.ofNat) = (l.drop (a.getD 0)).take (b.getD l.length - a.getD 0) := by
  have six : ∀ (n d : Nat) (o : Option Nat), d ≤ n → HT.sIx n d (o.map Int.ofNat) = min (o.getD d) n := by
    intro n d o hd
    cases o with
    | none => show d = min d n; omega
    | some k => exact HT.sIx_nat n d k
  unfold cutV
  rw [six _ _ _ (Nat.zero_le _), six _ _ _ (Nat.le_refl _)]
  apply List.ext_getElem?
  intro i
  simp only [List.getElem?_take, List.getElem?_drop]
  by_cases h1 : i < min (b.getD l.length) l.length - min (a.getD 0) l.length
  · rw [if_pos h1, if_pos (by omega), show min (a.getD 0) l.length + i = a.getD 0 + i by omega]
  · rw [if_neg h1]
    by_cases h2 : i < b.getD l.length - a.getD 0
    · rw [if_pos h2, List.getElem?_eq_none (by omega)]
    · rw [if_neg h2]
theorem cut_to (l : List V) (b : Nat) : cutV l none (some (b : Int)) = l.take b := cut_V l none (some b)
theorem cut_from (l : List V) (a : Nat) : cutV l (some (a : Int)) none = l.drop a := by
  have e := cut_V l (some a) none
  have z : (l.drop ((some a).getD 0)).take ((none : Option Nat).getD l.length - (some a).getD 0) = l.drop a := by
    show (l.drop a).take (l.length - a) = l.drop a
    exact List.take_of_length_le (by rw [List.length_drop]; omega)
  rw [z] at e
  exact e
theorem cut_mid (l : List V) (a b : Nat) : cutV l (some (a : Int)) (some (b : Int)) = (l.drop a).take (b - a) := cut_V l (some a) (some b)
theorem w_lTo {p : Addr} {l : List V} {b : Nat} (hs : SqL K H p l) (h : ∀ q, H q = none → Q (.ref q) (upd H q (.lst (l.take b)))) : rSlL K (.ref p) none (some (b : Int)) H Q := ⟨p, l, rfl, hs, by rw [cut_to]; exact h⟩
theorem w_lFrom {p : Addr} {l : List V} {a : Nat} (hs : SqL K H p l) (h : ∀ q, H q = none → Q (.ref q) (upd H q (.lst (l.drop a)))) : rSlL K (.ref p) (some (a : Int)) none H Q := ⟨p, l, rfl, hs, by rw [cut_from]; exact h⟩
theorem w_lMid {p : Addr} {l : List V} {a b : Nat} (hs : SqL K H p l) (h : ∀ q, H q = none → Q (.ref q) (upd H q (.lst ((l.drop a).take (b - a))))) : rSlL K (.ref p) (some (a : Int)) (some (b : Int)) H Q := ⟨p, l, rfl, hs, by rw [cut_mid]; exact h⟩
theorem w_catL {p q : Addr} {xs zs : List V} (hp : H p = some (.lst xs)) (hq : H q = some (.lst zs)) (hz : xs.length + zs.length ≤ sizeLine) (h : ∀ t, H t = none → Q (.ref t) (upd H t (.lst (xs ++ zs)))) : rCat (.ref p) (.ref q) H Q := ⟨p, q, xs, zs, rfl, rfl, hp, hq, hz, h⟩
end
end L2

/-! The head's facts: defs, names, tables, and exception classes with their __init__ -/
namespace HallHt
open PySem PySem.Spec PyProof.Rows L2 PySem.HallX
def cAd (K : PySem.W.Frag) (x : Str) : Addr := He.ga K x
def iAd (K : PySem.W.Frag) (x : Str) : Addr := He.ma K (He.ga K x) "__init__"
def initFd (K : PySem.W.Frag) (x : Str) : Option FuncData := match K.lookup (iAd K x) with
  | some ⟨_, _, .func fd, _⟩ => some fd
  | _ => none
def codeAd (K : PySem.W.Frag) (x : Str) : Addr := match initFd K x with
  | some fd => (match fd.code with
    | .ref a => a
    | _ => 0)
  | none => 0
def cellAd (K : PySem.W.Frag) (x : Str) : Addr := match initFd K x with
  | some fd => (match fd.closure with
    | [(_, c)] => c
    | _ => 0)
  | none => 0
abbrev FnH : Type := Option (Str × Str × Arguments × FuncBody × Scope × Addr × Addr)
def fnH (K : PySem.W.Frag) (x : Str) : FnH := (initFd K x).map fun fd => (fd.name, fd.qualname, fd.params, fd.body, fd.scope, fd.globals, fd.builtins)
structure HallD where
  x : Str
  fld : Str
  qual : Str
  params : Arguments
  body : List Stmt
  scope : Scope
def HallD.val (d : HallD) : FnH := some ("__init__", d.qual, d.params, .stmts d.body, d.scope, mainGlobals, builtinsNs)
def clsB (K : PySem.W.Frag) (C : Addr) : Bool := match K.lookup C with
  | some ⟨.type "type", _, .cls cd, sl⟩ => (match cd.mro, sl.toList with
    | .ref C' :: bm, [_, _, _, _, some (.builtin n), _] => C' == C && n == "ValueError.__new__" && !cd.hasDel && cd.hasDict && PySem.HandSPX.refsVE bm
    | _, _ => false)
  | _ => false
theorem clsB_ok {K : PySem.W.Frag} {C : Addr} (q : clsB K C = true) : ∃ nm q N bs bm sn sub ab col dd k0 k1 k2 k3 k5, K.lookup C = some (excClassObj nm q C N bs bm true sn sub ab col dd k0 k1 k2 k3 k5 "ValueError.__new__") ∧ PySem.HandSPX.refsVE bm = true := by
  unfold clsB at q
  split at q
  · rename_i dd cd sl ho
    split at q
    · rename_i C' bm k0 k1 k2 k3 n k5 hm hs
      simp only [Bool.and_eq_true, beq_iff_eq, Bool.not_eq_true'] at q
      obtain ⟨⟨⟨⟨rfl, rfl⟩, hdel⟩, hdct⟩, ht⟩ := q
      obtain ⟨nm, bs, mro, ns, qn, hd, sn, sub, ab, col, del⟩ := cd
      dsimp only at hm hdel hdct
      subst hm hdel hdct
      have hsl : sl = #[k0, k1, k2, k3, some (.builtin "ValueError.__new__"), k5] := by
        obtain ⟨l⟩ := sl
        simp only at hs
        rw [hs]
      subst hsl
      exact ⟨nm, qn, ns, bs, bm, sn, sub, ab, col, dd, k0, k1, k2, k3, k5, ho, ht⟩
    · cases q
  · cases q
def noFld (K : PySem.W.Frag) (d : HallD) : Bool := decide (PySem.W.findIn K (.ref (cAd K d.x)) d.fld = some none)
def hallB (file : Str) (K : PySem.W.Frag) (d : HallD) : Bool :=
  He.eqO (PySem.W.nsIn K mainGlobals d.x) (some (some (.ref (cAd K d.x))))
  && (clsB K (cAd K d.x)
  && (decide (PySem.W.ks_superIn K (cAd K d.x) (cAd K d.x) "__init__" = some (some (.builtin "ValueError.__init__")))
  && (decide (PySem.W.findIn K (.ref (cAd K d.x)) "__setattr__" = some (some (.builtin "object.__setattr__")))
  && (decide (PySem.W.findIn K (.ref (cAd K d.x)) "__getattribute__" = some (some (.builtin "BaseException.__getattribute__")))
  && (decide (PySem.W.findIn K (.ref (cAd K d.x)) "__getattr__" = some none)
  && (decide (PySem.W.findIn K (.ref (cAd K d.x)) "__init__" = some (some (.ref (iAd K d.x))))
  && (decide (PySem.W.typeIn K (.ref (iAd K d.x)) = some (.type "function"))
  && (PySem.W.keepIn K (.ref (cAd K d.x))
  && (decide (PySem.W.subIn K (.ref (cAd K d.x)) (.type "BaseException") = some true)
  && (decide (PySem.W.typeIn K (.ref (cAd K d.x)) = some (.type "type"))
  && (PySem.W.hasDictIn K (cAd K d.x)
  && (decide (PySem.W.subIn K (.ref (cAd K d.x)) (.type "ValueError") = some true)
  && (decide (PySem.W.mroIn K (cAd K d.x) (.ref (cAd K d.x)) = some true)
  && ((match initFd K d.x with
    | some fd => decide (fd.closure = [(("__class__" : Str), cellAd K d.x)]) && (decide (fd.code = .ref (codeAd K d.x)) && decide (fd.defaults = Value.none))
    | none => false)
  && (PySem.W.codeIn K (.ref (codeAd K d.x)) d.qual
  && ((match K.lookup (codeAd K d.x) with
    | some ⟨_, _, .fields vs, _⟩ => (match (vs : Array Value)[2]? with
      | some (Value.str f _) => decide (f = file)
      | _ => false)
    | _ => false)
  && ((match K.lookup (cellAd K d.x) with
    | some ⟨_, _, .cell (some (.ref C)), _⟩ => decide (C = cAd K d.x)
    | _ => false)
  && (decide (PySem.W.nsIn K cStatics "thirdparty.any" = some none)
  && (He.eqO (PySem.W.nsIn K mainGlobals "super") (some none)
  && (decide (PySem.W.findIn K (.ref (cAd K d.x)) "__class__" = some (some (.builtin "object.__class__")))
  && (decide (PySem.W.specialIn K (.builtin "object.__class__") "__get__" = some (some (.builtin "getset_descriptor.__get__")))
  && (decide (PySem.W.takesIn K (.builtin "object.__class__") = some true)
  && decide (PySem.W.mroIn K (cAd K d.x) (.type "object") = some true)))))))))))))))))))))))
theorem ba {a b : Bool} (h : (a && b) = true) : a = true ∧ b = true := Bool.and_eq_true_iff.mp h
theorem hall_of {prog : Program} {K : PySem.W.Frag} {h : Heap} {mg : Str → Option Value} {d : HallD} (X : K.In h) (G : h.Ns mainGlobals mg) (e : fnH K d.x = d.val) (q : hallB prog.main.file K d = true) (t0 : (prog.main.scope.names.lookup ("super" : Str)).isSome = false) :
    HallTxt prog K mg d.x (cAd K d.x) (iAd K d.x) (cellAd K d.x) (codeAd K d.x) d.qual d.params d.body d.scope ∧ ExcC K (cAd K d.x) := by
  obtain ⟨c1, q⟩ := ba q
  obtain ⟨c2, q⟩ := ba q
  obtain ⟨c3, q⟩ := ba q
  obtain ⟨c4, q⟩ := ba q
  obtain ⟨c5, q⟩ := ba q
  obtain ⟨c6, q⟩ := ba q
  obtain ⟨c7, q⟩ := ba q
  obtain ⟨c8, q⟩ := ba q
  obtain ⟨c9, q⟩ := ba q
  obtain ⟨c10, q⟩ := ba q
  obtain ⟨c11, q⟩ := ba q
  obtain ⟨c12, q⟩ := ba q
  obtain ⟨c13, q⟩ := ba q
  obtain ⟨c14, q⟩ := ba q
  obtain ⟨c15, q⟩ := ba q
  obtain ⟨c16, q⟩ := ba q
  obtain ⟨c17, q⟩ := ba q
  obtain ⟨c18, q⟩ := ba q
  obtain ⟨c19, q⟩ := ba q
  obtain ⟨c20, q⟩ := ba q
  obtain ⟨c21, q⟩ := ba q
  obtain ⟨c22, q⟩ := ba q
  obtain ⟨c23, c24⟩ := ba q
  refine ⟨{ gC := PySem.W.mg_of X G (He.eqO_ok c1), cls := clsB_ok c2, «sup» := of_decide_eq_true c3, sa := of_decide_eq_true c4, ga := of_decide_eq_true c5, gg := of_decide_eq_true c6, iC := of_decide_eq_true c7, tI := of_decide_eq_true c8, kC := c9, exC := of_decide_eq_true c10, tyC := of_decide_eq_true c11, hdC := c12, ve := of_decide_eq_true c13, self := of_decide_eq_true c14, fn := ?_, code := ?_, cell := ?_, stat := of_decide_eq_true c19, sup0 := PySem.W.mg_none_of X G (He.eqO_ok c20), top0 := t0 }, { hg := of_decide_eq_true c5, hk := of_decide_eq_true c6, hs := of_decide_eq_true c10, hd := c12, ha := of_decide_eq_true c21, hn := of_decide_eq_true c22, ht := of_decide_eq_true c23, hm := of_decide_eq_true c24 }⟩
  · unfold fnH at e
    cases q1 : initFd K d.x with
    | none =>
      rw [q1] at c15
      cases c15
    | some fd =>
      rw [q1] at c15 e
      obtain ⟨w1, w2⟩ := ba c15
      obtain ⟨w3, w4⟩ := ba w2
      have d1 := of_decide_eq_true w1
      have d2 := of_decide_eq_true w3
      have d3 := of_decide_eq_true w4
      clear w1 w2 w3 w4 c15
      have q2 : ∃ oc od osl, K.lookup (iAd K d.x) = some ⟨oc, od, .func fd, osl⟩ := by
        unfold initFd at q1
        split at q1
        · rename_i oc od fd' osl ho
          cases q1
          exact ⟨oc, od, osl, ho⟩
        · cases q1
      obtain ⟨oc, od, osl, ho⟩ := q2
      obtain ⟨n1, n2, n3, n4, n5, n6, n7, n8, n9, n10, n11, n12, n13, n14, n15⟩ := fd
      have e2 : (some (n1, n2, n3, n4, n5, n6, n15) : FnH) = some (("__init__" : Str), d.qual, d.params, FuncBody.stmts d.body, d.scope, mainGlobals, builtinsNs) := e
      simp only [Option.some.injEq, Prod.mk.injEq] at e2
      obtain ⟨h1, h2, h3, h4, h5, h6, h7⟩ := e2
      dsimp only at d1 d2 d3
      subst h1 h2 h3 h4 h5 h6 h7 d1 d2
      exact ⟨oc, od, n8, n9, n10, n11, n12, n14, osl, ho, c16, d3⟩
  · cases q1 : K.lookup (codeAd K d.x) with
    | none =>
      rw [q1] at c17
      cases c17
    | some o =>
      obtain ⟨oc, od, dt, osl⟩ := o
      rw [q1] at c17
      cases dt with
      | fields vs =>
        have c18 : (match (vs : Array Value)[2]? with
          | some (Value.str f _) => decide (f = prog.main.file)
          | _ => false) = true := c17
        cases q2 : vs[2]? with
        | none =>
          rw [q2] at c18
          cases c18
        | some v =>
          rw [q2] at c18
          cases v with
          | str f t =>
            have ef : f = prog.main.file := of_decide_eq_true c18
            rw [ef] at q2
            exact ⟨oc, od, vs, osl, t, rfl, q2⟩
          | _ => cases c18
      | _ => cases c17
  · cases q1 : K.lookup (cellAd K d.x) with
    | none =>
      rw [q1] at c18
      cases c18
    | some o =>
      obtain ⟨oc, od, dt, osl⟩ := o
      rw [q1] at c18
      cases dt with
      | cell v =>
        cases v with
        | none => cases c18
        | some v =>
          cases v with
          | ref C =>
            have ec : C = cAd K d.x := of_decide_eq_true c18
            subst ec
            exact ⟨oc, od, osl, rfl⟩
          | _ => cases c18
      | _ => cases c18
theorem noFld_ok {K : PySem.W.Frag} {d : HallD} (h : noFld K d = true) : PySem.W.findIn K (.ref (cAd K d.x)) d.fld = some none := of_decide_eq_true h
/-! ### the Hook -/
abbrev AlH : Type := He.AlD × Bool × List FnH × List (Option (List (Option (Str × Int))))
def kOf (n : Nat) (g : Addr → Option Obj) : PySem.W.Frag := He.frG g (He.asD g n ++ [cStatics])
def obsH (fa : List He.Fa) (fn : List He.DefD) (hs : List HallD) (ex : PySem.W.Frag → Bool) (ts : List He.Tab) (K : PySem.W.Frag) : AlH := (He.obsD fa fn K, ex K, hs.map fun d => fnH K d.x, ts.map fun t => He.dicW K (t.1 K))
def valH (fn : List He.DefD) (hs : List HallD) (ts : List He.Tab) (w : World) : AlH := (He.valD fn, true, hs.map HallD.val, ts.map fun t => some (He.keysIn w.params t.2))
def obsHG (n : Nat) (fa : List He.Fa) (fn : List He.DefD) (hs : List HallD) (ex : PySem.W.Frag → Bool) (ts : List He.Tab) (g : Addr → Option Obj) : AlH := obsH fa fn hs ex ts (kOf n g)
def SaysH (fa : List He.Fa) (fn : List He.DefD) (hs : List HallD) (ex : PySem.W.Frag → Bool) (ts : List He.Tab) (w : World) (K : PySem.W.Frag) : Prop := obsH fa fn hs ex ts K = valH fn hs ts w
def hookH (n : Nat) (fa : List He.Fa) (fn : List He.DefD) (hs : List HallD) (ex : PySem.W.Frag → Bool) (ts : List He.Tab) : PySem.W.Hook where
  α := AlH
  obs := fun s => obsHG n fa fn hs ex ts s.heap.get?
  val := fun w => valH fn hs ts w
  says := fun w h => ∃ K : PySem.W.Frag, K.In h ∧ SaysH fa fn hs ex ts w K
  of := fun _ _ e => ⟨_, He.frG_in, e⟩
  keeps := fun _ _ _ ⟨K, hK, c⟩ k => ⟨K, PySem.W.Frag.In.keeps hK k, c⟩
theorem obsHG_eq {n : Nat} {fa : List He.Fa} {fn : List He.DefD} {hs : List HallD} {ex : PySem.W.Frag → Bool} {ts : List He.Tab} {g : Addr → Option Obj} {s : Shared} (h : ∀ a, g a = s.heap.get? a) : obsHG n fa fn hs ex ts g = (hookH n fa fn hs ex ts).obs s := by
  have e : g = s.heap.get? := funext h
  rw [e] <;> rfl
section
variable {fa : List He.Fa} {fn : List He.DefD} {hs : List HallD} {ex : PySem.W.Frag → Bool} {ts : List He.Tab} {w : World} {K : PySem.W.Frag}
theorem SaysH.tab (c : SaysH fa fn hs ex ts w K) (i : Nat) {t : He.Tab} (h : ts[i]? = some t := by rfl) : He.dicW K (t.1 K) = some (He.keysIn w.params t.2) := by
  have e : ts.map (fun t => He.dicW K (t.1 K)) = ts.map fun t => some (He.keysIn w.params t.2) := congrArg (fun z : AlH => z.2.2.2) c
  have e2 : (ts.map fun t => He.dicW K (t.1 K))[i]? = (ts.map fun t => some (He.keysIn w.params t.2))[i]? := by rw [e]
  rw [List.getElem?_map, List.getElem?_map, h] at e2
  exact Option.some.inj e2
theorem SaysH.d (c : SaysH fa fn hs ex ts w K) : He.SaysD fa fn K := congrArg (fun z : AlH => z.1) c
theorem SaysH.more (c : SaysH fa fn hs ex ts w K) : ex K = true := congrArg (fun z : AlH => z.2.1) c
theorem SaysH.hall (c : SaysH fa fn hs ex ts w K) (i : Nat) {d : HallD} (h : hs[i]? = some d := by rfl) : fnH K d.x = d.val := by
  have e : hs.map (fun d => fnH K d.x) = hs.map HallD.val := congrArg (fun z : AlH => z.2.2.1) c
  have e2 : (hs.map fun d => fnH K d.x)[i]? = (hs.map HallD.val)[i]? := by rw [e]
  rw [List.getElem?_map, List.getElem?_map, h] at e2
  exact Option.some.inj e2
end
/-- a table of the top with text keys: its keys' answers -/
structure TxtD (K : PySem.W.Frag) (w : World) (d : Addr) (kvs : List (Str × He.Dv)) : Prop where
  ex : ∃ es n, KDict K w d es n
  has : ∀ p ∈ kvs, ∃ u, PySem.W.nsIn K d p.1 = some (some u) ∧ RelV (p.2.v K) u
  not : ∀ z, z ∉ kvs.map (·.1) → PySem.W.nsIn K d z = some none
theorem keys_of {P : Params} : ∀ {l : List DictEntry} {ks : List Str}, l.map He.keyOf = He.keysIn P ks → ∀ e ∈ l, ∃ x t, e.key = .str x t ∧ x ∈ ks
  | [], _, _, e, h => by cases h
  | _ :: _, [], h, _, _ => by cases h
  | e :: r, k :: ks, h, e', he => by
    have h1 : He.keyOf e :: r.map He.keyOf = some (k, PyData.keyHash P k) :: He.keysIn P ks := h
    injection h1 with h2 h3
    rcases List.mem_cons.mp he with rfl | he
    · unfold He.keyOf at h2
      split at h2
      · rename_i x t q
        have h4 := Option.some.inj h2
        obtain ⟨h5, h6⟩ := Prod.mk.inj h4
        exact ⟨x, t, q, by rw [h5]; exact List.mem_cons_self⟩
      · cases h2
    · obtain ⟨x, t, q, m⟩ := keys_of h3 e' he
      exact ⟨x, t, q, List.mem_cons_of_mem _ m⟩
theorem txtD_of {K : PySem.W.Frag} {w : World} {d : Addr} {kvs : List (Str × He.Dv)} (h : He.dicW K d = some (He.keysIn w.params (kvs.map (·.1)))) (hv : He.valsB K d kvs = true) : TxtD K w d kvs := by
  obtain ⟨es, n, D⟩ := He.dicW_ok h
  refine ⟨⟨es, n, D⟩, fun p hp => He.valsB_ok hv hp, fun z hz => ?_⟩
  have h2 : es.toList.map He.keyOf = He.keysIn w.params (kvs.map (·.1)) := by
    unfold He.dicW at h
    rw [D.at_] at h
    dsimp only at h
    split at h
    · exact Option.some.inj h
    · cases h
  have hk := keys_of h2
  unfold PySem.W.nsIn
  rw [D.at_]
  dsimp only
  have e1 : es.toList.find? (·.key.isStr z) = none := by
    rw [List.find?_eq_none]
    intro e he hz'
    obtain ⟨x, t, q, m⟩ := hk e he
    rw [q] at hz'
    have : x = z := by
      have := hz'
      unfold Value.isStr at this
      simpa using this
    subst this
    exact hz m
  rw [e1]
  dsimp only
  have e2 : es.toList.any (·.refKey) = false := by
    rw [List.any_eq_false]
    intro e he hz'
    obtain ⟨x, t, q, m⟩ := hk e he
    unfold DictEntry.refKey at hz'
    rw [q] at hz'
    cases hz'
  rw [e2]
  rfl
/-- the i-th top statement's class: the j-th statement of its body -/
def inCls (s : Stmt) (j : Nat) : Stmt := inClass s j
end HallHt

/-! Objects, texts' methods, dicts: more words of my own over HandS. -/
namespace L2
open PySem PySem.Spec PyProof.Rows SX TL PySem.StrLaws PySem.Builtin.Str
/-! ### methods and makers that may be called -/
structure MetX (P : Program) (w : World) (K : PySem.W.Frag) (mg : Str → Option Value) (base : Heap) (CX : CXT) (k : Nat) (C : Addr) (m : Str) (sp : Sp) : Prop where
  ex : ∃ (f : Addr) (fd : FuncData) (ps : List Str), FnOk P w K mg base CX k f fd ps sp ∧ Meth K C m f ∧ Binds K fd ps []
structure MakX (P : Program) (w : World) (K : PySem.W.Frag) (mg : Str → Option Value) (base : Heap) (CX : CXT) (k : Nat) (C : Addr) (sp : Sp) : Prop where
  ex : ∃ (f : Addr) (fd : FuncData) (ps : List Str), FnOk P w K mg base CX k f fd ps sp ∧ Mk K C f ∧ Binds K fd ps []
section
variable {X : Cx} {CX : CXT} {k j : Nat} {C : Addr} {x m : Str} {sp : Sp} {p pos apos : Pos} {e o : Expr} {es : List Expr} {ta : TE} {t : TA} {E : XK}
theorem pe_mx {pl : Sem Bool} (M : MetX X.prog X.w X.K X.mg X.base CX k C m sp) (he : PE X o ta) (c : Cls X.K C) (hr : Room j X.A) (hk : k ≤ j) (hx : Passes CX X E) (ha : PA X (e :: es) t)
    (hst : starEach (e :: es) X.env = (false, eval e X.env) :: starEach es X.env := by rfl) (hpl : (backTo pos (starEach es X.env)).any (·.1) = false := by rfl)
    (ht : eval (.Call (.Attribute o m apos) (e :: es) [] pos) X.env = (do
      let ov ← eval o X.env
      standAt apos.atName
      let (f, first) ← holding [ov] (getMethod ov m pl)
      callWith pos f first (backTo pos (starEach (e :: es) X.env)) (backToKw pos (keywordEach [] X.env))) := by rfl) :
    PE X (.Call (.Attribute o m apos) (e :: es) [] pos) (tMeth C m sp [] E ta t) := by
  obtain ⟨f, fd, ps, F, hm, b⟩ := M.ex
  exact pe_meth he c hm F (hr.mono hk) b .nil hx ha hst hpl ht
theorem pe_mx0 {pl : Sem Bool} (M : MetX X.prog X.w X.K X.mg X.base CX k C m sp) (he : PE X o ta) (c : Cls X.K C) (hr : Room j X.A) (hk : k ≤ j) (hx : Passes CX X E)
    (ht : eval (.Call (.Attribute o m apos) [] [] pos) X.env = (do
      let ov ← eval o X.env
      standAt apos.atName
      let (f, first) ← holding [ov] (getMethod ov m pl)
      callWith pos f first (backTo pos (starEach [] X.env)) (backToKw pos (keywordEach [] X.env))) := by rfl) :
    PE X (.Call (.Attribute o m apos) [] [] pos) (tMeth C m sp [] E ta tNil) := by
  obtain ⟨f, fd, ps, F, hm, b⟩ := M.ex
  exact pe_meth0 he c hm F (hr.mono hk) b .nil hx ht
theorem pe_mk (M : MakX X.prog X.w X.K X.mg X.base CX k C sp) (hr : Room j X.A) (hk : k + 1 ≤ j) (hg : Gl X x) (hm : X.mg x = some (.ref C)) (hx : Passes CX X E)
    (ha : PA X (e :: es) t) (hdb : (x == ("__debug__" : Str)) = false := by decide) (he : starEach (e :: es) X.env = (false, eval e X.env) :: starEach es X.env := by rfl) (hpl : (backTo pos (starEach es X.env)).any (·.1) = false := by rfl) :
    PE X (.Call (.Name x p) (e :: es) [] pos) (tMake C sp [] E t) := by
  obtain ⟨f, fd, ps, F, M, b⟩ := M.ex
  exact pe_make M F (hr.mono hk) hg hm b .nil hx ha hdb he hpl
/-- a def that lets a callee's exception out -/
theorem passE {E : XK} {E₁ : Value → Shared → Prop} (hs : X.stack = X.env :: X.outer) (hf : X.env.frame = some X.env.locals) (hex : X.ex = [])
    (hx : X.xe = fun e s' => wpAny (model X.prog X.w) X.A (leaving X.env e) (fun _ s'' => L2.CX X.prog X.w X.outer X.H_0 X.s_0 E e s'') E₁ s') : Passes (L2.CX X.prog X.w) X E :=
  passes_call (takes_of hs hf hex hx) fun _ _ _ _ h => h
end
section
variable {P : Program} {w : World} {K : PySem.W.Frag} {mg : Str → Option Value} {base : Heap}
theorem metx {CX : CXT} {m q : Str} {params : Arguments} {body : List Stmt} {scope : Scope} {C f : Addr} {fd : FuncData} {N ps : List Str} {k : Nat} {sp : Sp} (F : FunD K m q params body scope [] [] f fd) (hm : Meth K C m f) (S : FnScope N ps scope)
    (b : Binds K fd ps []) (len : ∀ vs H Q E, sp vs H Q E → vs.length = ps.length)
    (hbody : ∀ (cdv : Value) (A : Around) (outer : List Env) (s : Shared) (H : Hp) (vs : List V) (Q : VK) (E : XK), Room k (A.deeper (envOfC q scope s.heap.objs.size f cdv)) → sp vs H Q E →
      ∃ t, PSs (cxOf CX P w K mg base N q scope f cdv A outer s H E) body t ∧ t { nx := fun _ H' => Q .non H', rt := Q } (start N vs) H) : MetX P w K mg base CX (k + 1) C m sp :=
  ⟨f, fd, ps, F.ok S len hbody, hm, b⟩
theorem makx {CX : CXT} {q : Str} {params : Arguments} {body : List Stmt} {scope : Scope} {C f : Addr} {fd : FuncData} {N ps : List Str} {k : Nat} {sp : Sp} (F : FunD K "__init__" q params body scope [] [] f fd) (hm : Mk K C f) (S : FnScope N ps scope)
    (b : Binds K fd ps []) (len : ∀ vs H Q E, sp vs H Q E → vs.length = ps.length)
    (hbody : ∀ (cdv : Value) (A : Around) (outer : List Env) (s : Shared) (H : Hp) (vs : List V) (Q : VK) (E : XK), Room k (A.deeper (envOfC q scope s.heap.objs.size f cdv)) → sp vs H Q E →
      ∃ t, PSs (cxOf CX P w K mg base N q scope f cdv A outer s H E) body t ∧ t { nx := fun _ H' => Q .non H', rt := Q } (start N vs) H) : MakX P w K mg base CX (k + 1) C sp :=
  ⟨f, fd, ps, F.ok S len hbody, hm, b⟩
end
/-! ### isinstance of the caught error and a tuple of classes -/
def rIsEdT (K : PySem.W.Frag) (a : Addr) (cls : Value) (d : Option Addr) : List V → Hp → VK → Prop := fun xs H Q => ∃ (tp : Addr) (cs : List V) (ws : List Value) (b : Bool) (D dd : Addr) (fs : List (Str × V)), xs = [.ref a, .ref tp] ∧ H tp = some (.tup cs) ∧ Paired ClsV cs ws ∧ cls = .ref D ∧ ExcC K D ∧ d = some dd ∧ H dd = some (.xd fs) ∧
  PySem.W.kitAny K (.ref D) ws = some b ∧ Q (.bl b) H
theorem call_isEdT {X : Cx} {a : Addr} {cls : Value} {d : Option Addr} {oe : Obj} {pn : List (Addr × Obj)} (hz : Zc cls d oe) (hf : ∃ vs, oe.data = .fields vs) : CallR (X.suite a ((a, oe) :: pn)) (.builtin "isinstance") (rIsEdT X.K a cls d) := by
  intro pins s σ H xs us Q I r h
  obtain ⟨tp, cs, ws, b, D, dd, fs, rfl, hT, hcs, rfl, C, rfl, hdd, e, q⟩ := h
  cases r with
  | cons rx rr =>
    cases rr with
    | cons rt rr =>
      cases rr
      cases rx
      cases rt
      obtain ⟨_, its, rv, o, h1, h2, n, h3⟩ := (show ObjOk X.prog X.w H s.heap tp (.tup cs) from I.hok tp _ hT)
      have e3 := ClsV.all hcs rv
      subst e3
      obtain ⟨oc, od, dt, sl⟩ := o
      simp only at h2 h3
      subst h2 h3
      obtain ⟨hget, _⟩ := I.pin (a, oe) (List.mem_append.mpr (.inl List.mem_cons_self))
      obtain ⟨vs, hv⟩ := hf
      have hx : ObjOk X.prog X.w H s.heap dd (.xd fs) := I.hok dd _ hdd
      obtain ⟨mA, hns, hr⟩ := hx
      obtain ⟨od, ho, hl⟩ := lookIn_ns hns
      have J : PySem.W.InstAt s.heap a oe D (some od) := ⟨hget, hz.1, by unfold PySem.W.notCls; rw [hv] <;> rfl, by rw [hz.2]; exact ho⟩
      have hcl : (PySem.W.clsIn X.K D).isSome = true := by
        obtain ⟨cd, hc, _⟩ := PySem.W.any_some C.hd
        rw [hc] <;> rfl
      exact PySem.W.kia_tup (PySem.W.kitx_exc hcl C.hg C.hk C.hs C.ha C.hn C.ht C.hm) I.kIn J h1 e (fun z => nomatch z) fun tk => ⟨.bl b, H, I.kept (t' := tk) fun _ _ z => z, rfl, q⟩
/-! ### xs.count(x), texts -/
def eqs (k : Str) : Value → Bool
  | .str x _ => x.cps.toList == k.cps.toList
  | _ => false
def rCntS (K : PySem.W.Frag) : V → List V → Hp → VK → Prop := fun x xs H Q => ∃ (p : Addr) (ns : List (List Nat)) (k : List Nat), x = .ref p ∧ xs = [.str (S k)] ∧ SqL K H p (ns.map fun r => V.str (S r)) ∧ Q (.int (ns.count k : Nat)) H
theorem eqs_gives {k : List Nat} {t : Tok} : ∀ {ns : List (List Nat)} {us : List Value}, Vals (ns.map fun r => V.str (S r)) us → ∀ y ∈ us, MeetsSeq.EqGives y (.str (S k) t) (eqs (S k) y)
  | [], _, .nil, y, h => by cases h
  | n :: ns, _, .cons r rs, y, h => by
    rcases List.mem_cons.mp h with e | e
    · obtain ⟨t', rfl⟩ := r
      rw [e]
      exact SeqRoads2.EqGives.str (S n) (S k) t' t
    · exact eqs_gives rs y e
theorem eqs_count {k : List Nat} : ∀ {ns : List (List Nat)} {us : List Value}, Vals (ns.map fun r => V.str (S r)) us → us.countP (eqs (S k)) = ns.count k
  | [], _, .nil => rfl
  | n :: ns, _, .cons r rs => by
    obtain ⟨t', rfl⟩ := r
    rw [List.countP_cons, List.count_cons, eqs_count rs]
    congr 1
theorem mt_lcountS {X : Cx} : MtR X "list.count" (rCntS X.K) := by
  intro pins s σ H x xs v us Q I rx rxs h
  obtain ⟨p, ns, k, rfl, rfl, hs, q⟩ := h
  cases rx
  obtain ⟨u, rfl, ru⟩ := rxs.one
  obtain ⟨t, rfl⟩ := ru
  obtain ⟨its, rv, ⟨⟨cls, dd, data, sl⟩, n, ho, hc, hdn, hd⟩, hlen⟩ := I.list hs
  simp only at hc hd
  subst hc hd
  refine call_meets PySem.F.slot_list_count ⟨_, ho, rfl⟩ PySem.F.entry_list_count (PySem.F.args_list_count_2 _ _)
    (SeqAt.list_countAt p its.toArray n dd sl (.str (S k) t) (eqs (S k))) ⟨ho, fun y hy => (eqs_gives rv y (by simpa using hy)).at _ _, ?_⟩
  have ec : its.toArray.toList.countP (eqs (S k)) = ns.count k := eqs_count rv
  refine ⟨.int (ns.count k : Nat), H, I.tok _, ⟨s.toks, ?_⟩, q⟩
  show Value.int ((its.toArray.toList.countP (eqs (S k)) : Nat) : Int) s.toks = Value.int ((ns.count k : Nat) : Int) s.toks
  rw [ec]
/-! ### int(flag) -/
def rIntB : List V → Hp → VK → Prop := fun xs H Q => ∃ k, xs = [.bl k] ∧ Q (.int (if k then 1 else 0)) H
theorem call_intB {X : Cx} : CallR X (.type "int") rIntB := fun pins s σ H xs us Q I r ⟨k, e, q⟩ => call_int1 pins s σ H xs us Q I r (.inr ⟨k, e, q⟩)
/-! ### texts -/
def strp (l : List Nat) : List Nat := ((l.dropWhile (· == 32)).reverse.dropWhile (· == 32)).reverse
theorem tl_S (l : List Nat) : tl (S l) = l := S_get l
theorem strip_S (l : List Nat) : Txt.stripChars (S l) (S [32]) = S (strp l) := by
  have hg : ∀ c, (S [32]).cps.contains c = (c == 32) := fun c => by
    show (#[32] : Array Nat).contains c = _
    simp [Array.contains]
  have hg' : (S [32]).cps.contains = fun c => c == 32 := funext hg
  have dw : ∀ l : List Nat, l.dropWhile (· == 32) = l.drop (l.takeWhile (· == 32)).length := fun l => by
    induction l with
    | nil => rfl
    | cons c r ih =>
      by_cases h : c = 32
      · subst h; rw [List.dropWhile_cons_of_pos (by rfl), List.takeWhile_cons_of_pos (by rfl), List.length_cons, List.drop_succ_cons]; exact ih
      · rw [List.dropWhile_cons_of_neg (by simpa using h), List.takeWhile_cons_of_neg (by simpa using h)]; rfl
  have key : tl (stripped (S [32]).cps.contains true true (S l)) = strp l := by
    unfold stripped
    rw [tl_strSub, hg']
    unfold stripLo stripHi
    rw [if_pos rfl, if_pos rfl, S_get, S_len]
    unfold strp
    rw [dw l, dw ((l.drop _).reverse), List.drop_reverse, List.reverse_reverse]
    congr 1
    have h1 : (List.takeWhile (· == 32) l).length ≤ l.length := (List.takeWhile_sublist _).length_le
    rw [List.length_drop]
    omega
  unfold Txt.stripChars Txt.stripBy
  by_cases h : stripSame (S [32]).cps.contains true true (S l) = true
  · rw [if_pos h]
    refine ext_tl ?_
    rw [tl_S (strp l), ← key]
    unfold stripSame at h
    rw [Bool.and_eq_true, beq_iff_eq, beq_iff_eq] at h
    unfold stripped
    rw [h.2, h.1]
    have := tl_strSub_end (S l) 0
    rw [this]; rfl
  · rw [if_neg h]
    refine ext_tl ?_
    rw [tl_S (strp l), key]
def spl32 (l : List Nat) : List (List Nat) := spl [32] 0 [] l
theorem split_S (l : List Nat) (c : Nat) (hc : c < 256) : Txt.split (S l) (S [c]) = (spl [c] 0 [] l).map S := by
  refine map_tl_inj ?_
  have hk : (S [c]).cps.all (· < 256) = true := by
    show (#[c] : Array Nat).all (· < 256) = true
    simp [hc]
  rw [split_spl _ _ (by rw [tl_S]; simp) (kind_ok hk), tl_S, tl_S, List.map_map]
  have : (tl ∘ S) = id := funext fun z => tl_S z
  rw [this, List.map_id]
theorem part_S (l : List Nat) (c : Nat) : Txt.partition (S l) (S [c]) = (match par [c] [] l with | some (a, b) => (S a, S [c], S b) | none => (S l, S [], S [])) := by
  rw [partition_par _ _ (by rw [tl_S]; simp), tl_S, tl_S]
  rfl
theorem start_S (l : List Nat) (c : Nat) : Txt.startswith (S l) (S [c]) = decide (l[0]? = some c) := by
  unfold Txt.startswith
  rw [S_len, S_len, subAt_eq, S_len]
  have e1 : tl (S l) = l := tl_S l
  have e2 : tl (S [c]) = [c] := tl_S [c]
  show (decide (0 + 1 ≤ l.length) && (((tl (S l)).drop 0).take 1 == tl (S [c]))) = _
  rw [e1, e2]
  cases l with
  | nil => rfl
  | cons d r => simp; exact Bool.beq_eq_decide_eq d c
theorem join_S (c : Nat) (ls : List (List Nat)) : Txt.join (S [c]) (ls.map S) = S (joinL [c] ls) := by
  refine ext_tl ?_
  rw [join_eq, tl_join, tl_S, tl_S, List.map_map]
  have : (tl ∘ S) = id := funext fun z => tl_S z
  rw [this, List.map_id]
def rSplitS : V → List V → Hp → VK → Prop := fun x xs H Q => ∃ (l : List Nat) (c : Nat), x = .str (S l) ∧ xs = [.str (S [c])] ∧ c < 256 ∧ l.length + 2 ≤ sizeLine ∧ ∀ p, H p = none → Q (.ref p) (upd H p (.lst ((spl [c] 0 [] l).map fun r => V.str (S r))))
theorem mt_splitS {X : Cx} : MtR X "str.split" rSplitS := fun pins s σ H x xs v us Q I rx rs ⟨l, c, e1, e2, hc, hz, h⟩ =>
  mt_split pins s σ H x xs v us Q I rx rs ⟨S l, S [c], e1, e2, rfl, by rw [S_len]; exact hz, fun p hp => by
    have := h p hp
    rw [split_S l c hc, List.map_map]; exact this⟩
def rStripS : V → List V → Hp → VK → Prop := fun x xs H Q => ∃ l : List Nat, x = .str (S l) ∧ xs = [.str (S [32])] ∧ l.length ≤ sizeLine ∧ Q (.str (S (strp l))) H
theorem mt_stripS {X : Cx} : MtR X "str.strip" rStripS := fun pins s σ H x xs v us Q I rx rs ⟨l, e1, e2, hz, h⟩ =>
  mt_stripChars pins s σ H x xs v us Q I rx rs ⟨S l, S [32], e1, e2, by rw [S_len]; exact hz, by rw [strip_S]; exact h⟩
def rPartS : V → List V → Hp → VK → Prop := fun x xs H Q => ∃ (l : List Nat) (c : Nat), x = .str (S l) ∧ xs = [.str (S [c])] ∧ l.length ≤ sizeLine ∧
  ∀ p, H p = none → Q (.ref p) (upd H p (.tup (match par [c] [] l with | some (a, b) => [.str (S a), .str (S [c]), .str (S b)] | none => [.str (S l), .str (S []), .str (S [])])))
theorem mt_partS {X : Cx} : MtR X "str.partition" rPartS := fun pins s σ H x xs v us Q I rx rs ⟨l, c, e1, e2, hz, h⟩ =>
  mt_partition pins s σ H x xs v us Q I rx rs ⟨S l, S [c], e1, e2, rfl, by rw [S_len]; exact hz, fun p hp => by
    have := h p hp
    rw [part_S]
    cases e : par [c] [] l with
    | none => rw [e] at this; exact this
    | some q => rw [e] at this; exact this⟩
def rStartS : V → List V → Hp → VK → Prop := fun x xs H Q => ∃ (l : List Nat) (c : Nat), x = .str (S l) ∧ xs = [.str (S [c])] ∧ Q (.bl (decide (l[0]? = some c))) H
theorem mt_startS {X : Cx} : MtR X "str.startswith" rStartS := fun pins s σ H x xs v us Q I rx rs ⟨l, c, e1, e2, h⟩ =>
  mt_startswith pins s σ H x xs v us Q I rx rs ⟨S l, S [c], e1, e2, by rw [start_S]; exact h⟩
def rJoinS (K : PySem.W.Frag) : V → List V → Hp → VK → Prop := fun x xs H Q => ∃ (c : Nat) (p : Addr) (ls : List (List Nat)), x = .str (S [c]) ∧ xs = [.ref p] ∧ SqL K H p (ls.map fun r => V.str (S r)) ∧ (ls.map (·.length)).sum + ls.length ≤ 16777216 ∧ Q (.str (S (joinL [c] ls))) H
theorem mt_joinS {X : Cx} : MtR X "str.join" (rJoinS X.K) := fun pins s σ H x xs v us Q I rx rs ⟨c, p, ls, e1, e2, hp, hz, h⟩ =>
  mt_join pins s σ H x xs v us Q I rx rs ⟨S [c], p, ls.map S, e1, e2, .inl (by rw [List.map_map]; exact hp), by
    rw [List.map_map, List.length_map, S_len]
    have : ((fun x : Str => x.length) ∘ S) = List.length := funext fun z => S_len z
    rw [this]; simpa using hz, by rw [join_S]; exact h⟩
/-! ### tables of the top with text keys -/
section
variable {X : Cx} {d : Addr} {kvs : List (Str × He.Dv)}
def rInTD (d : Addr) (kvs : List (Str × He.Dv)) : R2 := fun x y H Q => ∃ z : Str, x = .str z ∧ y = .ref d ∧ Q (.bl (decide (z ∈ kvs.map (·.1)))) H
def rNotInTD (d : Addr) (kvs : List (Str × He.Dv)) : R2 := fun x y H Q => ∃ z : Str, x = .str z ∧ y = .ref d ∧ Q (.bl (!decide (z ∈ kvs.map (·.1)))) H
theorem ns_TD {K : PySem.W.Frag} {w : World} (D : HallHt.TxtD K w d kvs) (z : Str) : ∃ r : Option Value, PySem.W.nsIn K d z = some r ∧ r.isSome = decide (z ∈ kvs.map (·.1)) := by
  by_cases h : z ∈ kvs.map (·.1)
  · obtain ⟨p, hp, rfl⟩ := List.mem_map.mp h
    obtain ⟨u, e, _⟩ := D.has p hp
    exact ⟨_, e, by rw [decide_eq_true h]; rfl⟩
  · exact ⟨_, D.not z h, by rw [decide_eq_false h]; rfl⟩
theorem op_inTD (D : HallHt.TxtD X.K X.w d kvs) : OpR X (compareOp .In) (rInTD d kvs) := by
  obtain ⟨es, n, KD⟩ := D.ex
  intro pins s σ H x y v u Q I rx ry ⟨z, e1, e2, q⟩
  obtain ⟨r, h1, h2⟩ := ns_TD D z
  exact op_in_kd KD pins s σ H x y v u Q I rx ry ⟨z, r, e1, e2, h1, by rw [h2]; exact q⟩
theorem op_notInTD (D : HallHt.TxtD X.K X.w d kvs) : OpR X (compareOp .NotIn) (rNotInTD d kvs) := by
  obtain ⟨es, n, KD⟩ := D.ex
  intro pins s σ H x y v u Q I rx ry ⟨z, e1, e2, q⟩
  obtain ⟨r, h1, h2⟩ := ns_TD D z
  exact op_notIn_kd KD pins s σ H x y v u Q I rx ry ⟨z, r, e1, e2, h1, by rw [h2]; exact q⟩
def rGetTD (K : PySem.W.Frag) (d : Addr) (kvs : List (Str × He.Dv)) : R2 := fun x y H Q => ∃ p ∈ kvs, x = .ref d ∧ y = .str p.1 ∧ Q (p.2.v K) H
theorem op_getTD (D : HallHt.TxtD X.K X.w d kvs) : OpR X getItem (rGetTD X.K d kvs) := by
  obtain ⟨es, n, KD⟩ := D.ex
  intro pins s σ H x y v u Q I rx ry ⟨p, hp, e1, e2, q⟩
  obtain ⟨u0, h1, h2⟩ := D.has p hp
  exact op_item_kd KD pins s σ H x y v u Q I rx ry ⟨p.1, u0, _, e1, e2, h1, h2, q⟩
theorem ix_TD (D : HallHt.TxtD X.K X.w d kvs) : IxR X (rGetTD X.K d kvs) := by
  obtain ⟨es, n, KD⟩ := D.ex
  intro value slice pins s σ H x y v u Q I rx ry h hs
  obtain ⟨p, hp, e1, e2, q⟩ := h
  subst e1
  cases rx
  exact tail_any (kd_type KD I) PySem.F.slot_dict_getitem.lookup (op_getTD D pins s σ H (.ref d) y _ u Q I rfl ry ⟨p, hp, rfl, e2, q⟩) hs
end
end L2

/-! More steps: fields, texts' methods, dicts, last items, powers, tuples. -/
namespace L2
open PySem PySem.Spec PyProof.Rows SX TL
def CPowN (i j : Int) : Prop := 0 ≤ j ∧ (Builtin.Int.intBits i : Int) * j ≤ 2 ^ 27
def rPowN : R2 := rI CPowN fun i j => .int (i ^ j.toNat)
theorem op_powN {X : Cx} : OpR X (binaryOp .Pow) rPowN := opI fun _ _ _ _ _ _ _ hc q => pow_int hc.1 hc.2 q
section
variable {σ : St} {H : Hp} {i : Nat} {v x y z : V} {ta tb tc te tv : TE} {tt uu : TT} {tA tR : TA} {Q : VK} {QB : Bool → Hp → Prop} {QA : List V → Hp → Prop} {D : Ends} {t u : TS} {g : TG} {K : PySem.W.Frag}
theorem w_powN {a b : Int} (hc : CPowN a b) (h : Q (.int (a ^ b.toNat)) H) : rPowN (.int a) (.int b) H Q := ⟨a, b, rfl, rfl, hc, h⟩
theorem w_intB {k : Bool} (h : Q (.int (if k then 1 else 0)) H) : rIntB [.bl k] H Q := ⟨k, rfl, h⟩
theorem w_fld {f : Str} (h : ta σ H fun x H1 => ∃ a C dx fs v, x = .ref a ∧ H1 a = some (.ins C dx fs) ∧ Cls K C ∧ NoAttr K C f ∧ fs.lookup f = some v ∧ Q v H1) : tFld K ta f σ H Q := h
theorem w_fldA {R : V → Prop} {a C dx : Addr} {fs : List (Str × V)} {f : Str} (e : H a = some (.ins C dx fs)) (c : Cls K C) (n : NoAttr K C f) (l : fs.lookup f = some v) (h : R v) : ∃ a' C' dx' fs' v', V.ref a = .ref a' ∧ H a' = some (.ins C' dx' fs') ∧ Cls K C' ∧ NoAttr K C' f ∧ fs'.lookup f = some v' ∧ R v' := ⟨a, C, dx, fs, v, rfl, e, c, n, l, h⟩
theorem w_setf {f : Str} (h : tv σ H fun y H1 => ta σ H1 fun x H2 => ∃ a C dx fs, x = .ref a ∧ H2 a = some (.ins C dx fs) ∧ Cls K C ∧ NoAttr K C f ∧ fs.length < 1000 ∧ D.nx σ (upd H2 a (.ins C dx (putF f y fs)))) : sFld K ta tv f D σ H := h
theorem w_setfA {R : Addr → Addr → Addr → List (Str × V) → Prop} {a C dx : Addr} {fs : List (Str × V)} {f : Str} (e : H a = some (.ins C dx fs)) (c : Cls K C) (n : NoAttr K C f) (l : fs.length < 1000) (h : R a C dx fs) : ∃ a' C' dx' fs', V.ref a = .ref a' ∧ H a' = some (.ins C' dx' fs') ∧ Cls K C' ∧ NoAttr K C' f ∧ fs'.length < 1000 ∧ R a' C' dx' fs' := ⟨a, C, dx, fs, rfl, e, c, n, l, h⟩
theorem w_faug {rd : V → V → Hp → VK → Prop} {f : Str} (h : ta σ H fun x H1 => ∃ a C dx fs v, x = .ref a ∧ H1 a = some (.ins C dx fs) ∧ Cls K C ∧ NoAttr K C f ∧ fs.lookup f = some v ∧
  tv σ H1 fun y H2 => rd v y H2 fun z H3 => ∃ dx' fs', H3 a = some (.ins C dx' fs') ∧ fs'.length < 1000 ∧ D.nx σ (upd H3 a (.ins C dx' (putF f z fs')))) : sFldAug K ta tv rd f D σ H := h
theorem w_meth {C : Addr} {m : Str} {sp : Sp} {E : XK} (h : ta σ H fun x H1 => ∃ a dx fs, x = .ref a ∧ H1 a = some (.ins C dx fs) ∧ fs.lookup m = none ∧ tA σ H1 fun vs H2 => sp (x :: (vs ++ [])) H2 Q E) : tMeth C m sp [] E ta tA σ H Q := h
theorem w_isN (h : Q (.bl (decide (x = .non))) H) : (fun x y H Q => y = V.non ∧ Q (.bl (decide (x = V.non))) H : R2) x .non H Q := ⟨rfl, h⟩
theorem w_bmS {rm : V → List V → Hp → VK → Prop} {z : Str} (h : tA σ H fun xs H2 => rm (.str z) xs H2 Q) : tyV K "str" (.str z) H ∧ tA σ H fun xs H2 => rm (.str z) xs H2 Q := ⟨rfl, h⟩
theorem w_split {l : List Nat} {c : Nat} (hc : c < 256) (hz : l.length + 2 ≤ sizeLine) (h : ∀ p, H p = none → Q (.ref p) (upd H p (.lst ((spl [c] 0 [] l).map fun r => V.str (SX.S r))))) : rSplitS (.str (SX.S l)) [.str (SX.S [c])] H Q := ⟨l, c, rfl, rfl, hc, hz, h⟩
theorem w_strip {l : List Nat} (hz : l.length ≤ sizeLine) (h : Q (.str (SX.S (strp l))) H) : rStripS (.str (SX.S l)) [.str (SX.S [32])] H Q := ⟨l, rfl, rfl, hz, h⟩
theorem w_start {l : List Nat} {c : Nat} (h : Q (.bl (decide (l[0]? = some c))) H) : rStartS (.str (SX.S l)) [.str (SX.S [c])] H Q := ⟨l, c, rfl, rfl, h⟩
theorem w_join {l : List (List Nat)} {c : Nat} {p : Addr} (hs : SqL K H p (l.map fun r => V.str (SX.S r))) (hz : (l.map (·.length)).sum + l.length ≤ 16777216) (h : Q (.str (SX.S (joinL [c] l))) H) : rJoinS K (.str (SX.S [c])) [.ref p] H Q := ⟨c, p, l, rfl, rfl, hs, hz, h⟩
theorem w_prt {l : List Nat} {c : Nat} (hz : l.length ≤ sizeLine) (h : ∀ p, H p = none → Q (.ref p) (upd H p (.tup (match par [c] [] l with | some (a, b) => [.str (SX.S a), .str (SX.S [c]), .str (SX.S b)] | none => [.str (SX.S l), .str (SX.S []), .str (SX.S [])])))) : rPartS (.str (SX.S l)) [.str (SX.S [c])] H Q := ⟨l, c, rfl, rfl, hz, h⟩
theorem w_cnt1 {ns : List (List Nat)} {k : List Nat} {p : Addr} (hs : SqL K H p (ns.map fun r => V.str (SX.S r))) (h : Q (.int (ns.count k : Nat)) H) : rCntS K (.ref p) [.str (SX.S k)] H Q := ⟨p, ns, k, rfl, rfl, hs, h⟩
theorem w_lstTyQ {p : Addr} {xs : List V} {F : Prop} (hp : SqL K H p xs) (h : F) : tyV K "list" (.ref p) H ∧ F := ⟨.inl ⟨rfl, _, hp⟩, h⟩
theorem w_ixLm {p : Addr} {xs : List V} (hs : SqL K H p (xs ++ [v])) (h : Q v H) : rIxL K (.ref p) (.int (-1)) H Q := ⟨p, _, _, v, rfl, rfl, hs, atI_last xs v, h⟩
theorem w_setLm {p : Addr} {xs : List V} {F : Hp → Prop} (hp : H p = some (.lst (xs ++ [x]))) (h : F (upd H p (.lst (xs ++ [v])))) : rSetL (.ref p) (.int (-1)) v H F := by
  refine ⟨p, xs ++ [x], -1, xs.length, rfl, rfl, hp, ?_, ?_⟩
  · unfold ixN
    have hl : (xs ++ [x]).length = xs.length + 1 := by simp
    rw [hl, if_neg (by decide), if_pos (by omega)]
    congr 1
    omega
  · rw [List.set_append_right _ _ (Nat.le_refl _), Nat.sub_self]; exact h
theorem w_repL {p : Addr} {xs : List V} {n : Nat} (hp : H p = some (.lst xs)) (hn : n < 2 ^ 62) (hz : xs.length * n ≤ sizeLine) (h : ∀ q, H q = none → Q (.ref q) (upd H q (.lst (List.replicate n xs).flatten))) : rRep (.ref p) (.int (n : Int)) H Q :=
  ⟨p, n, xs, rfl, rfl, hp, by omega, by omega, by rw [Int.toNat_natCast]; exact hz, by rw [Int.toNat_natCast]; exact h⟩
theorem w_catU {p q : Addr} {xs ys : List V} (hp : SqT K H p xs) (hq : SqT K H q ys) (hx : xs ≠ []) (hy : ys ≠ []) (hz : xs.length + ys.length ≤ 4096) (h : ∀ t, H t = none → Q (.ref t) (upd H t (.tup (xs ++ ys)))) : rCatT K (.ref p) (.ref q) H Q :=
  ⟨p, q, xs, ys, rfl, rfl, hp, hq, hx, Nat.le_trans hz (by decide), fun z => absurd z hy, fun _ => h⟩
theorem w_tTo {p : Addr} {l : List V} {b : Nat} (hs : SqT K H p l) (hb : b < l.length) (h : ∀ q, H q = none → Q (.ref q) (upd H q (.tup (l.take b)))) : rSlT K (.ref p) none (some (b : Int)) H Q := ⟨p, l, rfl, hs, by rw [HT.sIx_nat]; intro z; have := z.2; omega, by rw [cut_to]; exact h⟩
theorem w_tupL {p : Addr} {ys : List V} (hs : SqL K H p ys) (h : ∀ l, H l = none → Q (.ref l) (upd H l (.tup ys))) : rTupL K [.ref p] H Q := ⟨p, ys, rfl, hs, h⟩
theorem w_lstQL {p : Addr} {ys : List V} (hs : SqL K H p ys) (h : ∀ l, H l = none → Q (.ref l) (upd H l (.lst ys))) : rLstQ K [.ref p] H Q := ⟨p, ys, rfl, .inl hs, h⟩
/-! ### data -/
theorem dpS {H : Hp} : ∀ ws : List (List Nat), DpAll K H (ws.map fun r => V.str (SX.S r)) (ws.map fun r => PyData.str (SX.S r))
  | [] => .nil
  | w :: ws => .cons (.str _) (dpS ws)
/-- plain signs alone -/
def Cok (l : List Nat) : Prop := ∀ c ∈ l, c < 256
theorem strOk_S {l : List Nat} (h : Cok l) : PyData.strOk (SX.S l) = true := by
  unfold PyData.strOk
  rw [Array.all_eq_true']
  intro c hc
  have hc' : c ∈ (SX.S l).cps.toList := by simpa using hc
  rw [S_get] at hc'
  exact decide_eq_true (Nat.lt_trans (h c hc') (by decide))
theorem shS : ∀ ws : List (List Nat), (∀ w ∈ ws, Cok w) → PyData.canLayAll0 (ws.map fun r => PyData.str (SX.S r)) = true ∧ PyData.depthAll (ws.map fun r => PyData.str (SX.S r)) ≤ 1
  | [], _ => ⟨rfl, Nat.zero_le _⟩
  | w :: ws, h => by
    obtain ⟨h1, h2⟩ := shS ws fun v hv => h v (List.mem_cons_of_mem _ hv)
    refine ⟨?_, ?_⟩
    · simp only [List.map_cons, PyData.canLayAll0, PyData.canLay0]
      rw [strOk_S (h w List.mem_cons_self), h1]; rfl
    · simp only [List.map_cons, PyData.depthAll, PyData.depth]
      omega
theorem shL {ws : List (List Nat)} (h : ∀ w ∈ ws, Cok w) : SeqAt.shaped (.list (ws.map fun r => PyData.str (SX.S r))) = true := by
  obtain ⟨h1, h2⟩ := shS ws h
  show ((PyData.canLay0 (.list _)) && decide (PyData.depth (.list _) ≤ 64)) = true
  rw [Bool.and_eq_true]
  refine ⟨by simp only [PyData.canLay0]; exact h1, decide_eq_true ?_⟩
  simp only [PyData.depth]; omega
theorem eqvS : ∀ ws vs : List (List Nat), PyData.eqvAll (ws.map fun r => PyData.str (SX.S r)) (vs.map fun r => PyData.str (SX.S r)) = decide (ws = vs)
  | [], [] => rfl
  | [], _ :: _ => rfl
  | _ :: _, [] => rfl
  | w :: ws, v :: vs => by
    simp only [List.map_cons, PyData.eqvAll, PyData.eqv, eqvS ws vs]
    by_cases h : w = v
    · subst h; simp
    · have : (SX.S w == SX.S v) = false := by
        rw [beq_eq_false_iff_ne]; exact fun z => h (SX.S_inj z)
      simp [this, h]
theorem w_eqW {p q : Addr} {ws vs : List (List Nat)} (hp : SqL K H p (ws.map fun r => V.str (SX.S r))) (hq : SqL K H q (vs.map fun r => V.str (SX.S r))) (h1 : ∀ w ∈ ws, Cok w) (h2 : ∀ w ∈ vs, Cok w) (h : Q (.bl (decide (ws = vs))) H) : rEqD K (.ref p) (.ref q) H Q :=
  ⟨_, _, .lst hp (dpS ws), .lst hq (dpS vs), shL h1, shL h2, by simp only [PyData.eqv, eqvS]; exact h⟩
end
end L2

/-! New things told by what stands, not by how: Same. -/
namespace L2
open PySem PySem.Spec PyProof.Rows SX TL
theorem same_upd {H : Hp} {p : Addr} {o : HO} (h : H p = none) : Same H (upd H p o) := fun b u e => by
  rw [upd_ne (ne_of_none e h)]; exact e
theorem Same.tr {H H1 H2 : Hp} (h : Same H H1) (k : Same H1 H2) : Same H H2 := fun b u e => k b u (h b u e)
theorem SqL.sm {K : PySem.W.Frag} {H H' : Hp} {a : Addr} {xs : List V} (h : SqL K H a xs) (e : Same H H') : SqL K H' a xs :=
  h.elim (fun h => .inl (h.elim (fun h => .inl (e _ _ h)) fun ⟨o, h⟩ => .inr ⟨o, e _ _ h⟩)) fun h => .inr h
/-- a new list, a new tuple -/
def NewL (xs : List V) (H : Hp) (Q : VK) : Prop := xs.length ≤ sizeLine ∧ ∀ p, H p = none → Q (.ref p) (upd H p (.lst xs))
def NewT (xs : List V) (H : Hp) (Q : VK) : Prop := xs.length ≤ sizeLine ∧ ∀ p, H p = none → Q (.ref p) (upd H p (.tup xs))
/-- all but p is as it was -/
def Ex (p : Addr) (H H' : Hp) : Prop := ∀ b, b ≠ p → H' b = H b
section
variable {σ : St} {H : Hp} {v : V} {tA : TA} {Q : VK} {K : PySem.W.Frag}
theorem w_lstN (h : tA σ H fun xs H1 => NewL xs H1 Q) : tLst tA σ H Q := h
theorem w_tupN (h : tA σ H fun xs H1 => NewT xs H1 Q) : tTup tA σ H Q := h
theorem n_L {xs : List V} (h : ∀ p H', H p = none → Same H H' → H' p = some (.lst xs) → Q (.ref p) H') (hz : xs.length ≤ 4096 := by exact Nat.le_of_ble_eq_true rfl) : NewL xs H Q :=
  ⟨Nat.le_trans hz (by decide), fun p hp => h p _ hp (same_upd hp) upd_same⟩
theorem n_T {xs : List V} (h : ∀ p H', H p = none → Same H H' → H' p = some (.tup xs) → Q (.ref p) H') (hz : xs.length ≤ 4096 := by exact Nat.le_of_ble_eq_true rfl) : NewT xs H Q :=
  ⟨Nat.le_trans hz (by decide), fun p hp => h p _ hp (same_upd hp) upd_same⟩
theorem n_to {p : Addr} {l : List V} {b : Nat} (hs : SqL K H p l) (h : ∀ q H', H q = none → Same H H' → H' q = some (.lst (l.take b)) → Q (.ref q) H') : rSlL K (.ref p) none (some (b : Int)) H Q := w_lTo hs fun q hq => h q _ hq (same_upd hq) upd_same
theorem n_from {p : Addr} {l : List V} {a : Nat} (hs : SqL K H p l) (h : ∀ q H', H q = none → Same H H' → H' q = some (.lst (l.drop a)) → Q (.ref q) H') : rSlL K (.ref p) (some (a : Int)) none H Q := w_lFrom hs fun q hq => h q _ hq (same_upd hq) upd_same
theorem n_mid {p : Addr} {l : List V} {a b : Nat} (hs : SqL K H p l) (h : ∀ q H', H q = none → Same H H' → H' q = some (.lst ((l.drop a).take (b - a))) → Q (.ref q) H') : rSlL K (.ref p) (some (a : Int)) (some (b : Int)) H Q := w_lMid hs fun q hq => h q _ hq (same_upd hq) upd_same
theorem n_cat {p q : Addr} {xs zs : List V} (hp : H p = some (.lst xs)) (hq : H q = some (.lst zs)) (hz : xs.length + zs.length ≤ 100000) (h : ∀ t H', H t = none → Same H H' → H' t = some (.lst (xs ++ zs)) → Q (.ref t) H') : rCat (.ref p) (.ref q) H Q :=
  w_catL hp hq (Nat.le_trans hz (by decide)) fun t ht => h t _ ht (same_upd ht) upd_same
theorem n_rep {p : Addr} {xs : List V} {n : Nat} (hp : H p = some (.lst xs)) (hz : xs.length * n ≤ 100000) (hn : n ≤ 100000) (h : ∀ q H', H q = none → Same H H' → H' q = some (.lst (List.replicate n xs).flatten) → Q (.ref q) H') : rRep (.ref p) (.int (n : Int)) H Q :=
  w_repL hp (Nat.lt_of_le_of_lt hn (by decide)) (Nat.le_trans hz (by decide)) fun t ht => h t _ ht (same_upd ht) upd_same
theorem n_tup {p : Addr} {ys : List V} (hs : SqL K H p ys) (h : ∀ l H', H l = none → Same H H' → H' l = some (.tup ys) → Q (.ref l) H') : rTupL K [.ref p] H Q := w_tupL hs fun t ht => h t _ ht (same_upd ht) upd_same
theorem n_lst {p : Addr} {ys : List V} (hs : SqL K H p ys) (h : ∀ l H', H l = none → Same H H' → H' l = some (.lst ys) → Q (.ref l) H') : rLstQ K [.ref p] H Q := w_lstQL hs fun t ht => h t _ ht (same_upd ht) upd_same
theorem n_catU {p q : Addr} {xs ys : List V} (hp : SqT K H p xs) (hq : SqT K H q ys) (hx : xs ≠ []) (hy : ys ≠ []) (hz : xs.length + ys.length ≤ 4096) (h : ∀ t H', H t = none → Same H H' → H' t = some (.tup (xs ++ ys)) → Q (.ref t) H') : rCatT K (.ref p) (.ref q) H Q :=
  w_catU hp hq hx hy hz fun t ht => h t _ ht (same_upd ht) upd_same
theorem n_tTo {p : Addr} {l : List V} {b : Nat} (hs : SqT K H p l) (hb : b < l.length) (h : ∀ q H', H q = none → Same H H' → H' q = some (.tup (l.take b)) → Q (.ref q) H') : rSlT K (.ref p) none (some (b : Int)) H Q := w_tTo hs hb fun t ht => h t _ ht (same_upd ht) upd_same
theorem n_split {l : List Nat} {c : Nat} (hc : c < 256) (hz : l.length + 2 ≤ sizeLine) (h : ∀ p H', H p = none → Same H H' → H' p = some (.lst ((spl [c] 0 [] l).map fun r => V.str (SX.S r))) → Q (.ref p) H') : rSplitS (.str (SX.S l)) [.str (SX.S [c])] H Q := w_split hc hz fun t ht => h t _ ht (same_upd ht) upd_same
theorem n_part {l : List Nat} {c : Nat} (hz : l.length ≤ sizeLine) (h : ∀ p H', H p = none → Same H H' → H' p = some (.tup (match par [c] [] l with | some (a, b) => [.str (SX.S a), .str (SX.S [c]), .str (SX.S b)] | none => [.str (SX.S l), .str (SX.S []), .str (SX.S [])])) → Q (.ref p) H') : rPartS (.str (SX.S l)) [.str (SX.S [c])] H Q := w_prt hz fun t ht => h t _ ht (same_upd ht) upd_same
theorem n_app {p : Addr} {xs : List V} (hp : H p = some (.lst xs)) (hz : xs.length ≤ 100000) (h : ∀ H', H' p = some (.lst (xs ++ [v])) → Ex p H H' → Q .non H') : rAppend (.ref p) [v] H Q :=
  w_app hp (Nat.lt_of_le_of_lt hz (by decide)) (h _ upd_same fun b hb => upd_ne hb)
theorem n_lTy {p : Addr} {xs : List V} {F : Prop} (hp : H p = some (.lst xs)) (h : F) : tyV K "list" (.ref p) H ∧ F := ⟨.inl ⟨rfl, _, SqL.of hp⟩, h⟩
theorem lc_const {a : Addr} {xs : List V} {i : Nat} {σ : St} {H1 : Hp} {D : Addr} {Qd : Hp → Prop} (hx : SqL K H1 a xs) (hD : H1 D = none) (hz : xs.length ≤ 100000) (h : ∀ H', Same H1 H' → H' D = some (.lst (List.replicate xs.length v)) → Qd H') :
    ∃ W : Nat → Nat → Hp → Prop, (∃ m, W 0 m (upd H1 D (.lst []))) ∧ ∀ j m H, W j m H →
      ((Itl K a).stop j H ∧ Qd H) ∨ ((Itl K a).go j H ∧ ∃ Nx : Hp → Prop, (∀ H', Nx H' → ∃ m', m' < m ∧ W (j + 1) m' H') ∧ ∀ x H', (Itl K a).yld j H x H' → gName i x (wipe σ [i]) H' fun σ2 H2 => wipe σ2 [i] = wipe σ [i] ∧ tYes σ2 H2 fun b H3 =>
        if b = true then tC v σ2 H3 fun y H4 => ∃ acc, H4 D = some (.lst acc) ∧ acc.length < sizeLine ∧ Nx (upd H4 D (.lst (acc ++ [y]))) else Nx H3) := by
  refine lc_list (xs := xs) (fun j H' => Same H1 H' ∧ H' D = some (.lst (List.replicate j v))) ⟨same_upd hD, upd_same⟩ (fun j H' _ p => hx.sm p.1) ?_ (fun H' p => h H' p.1 p.2)
  rintro j x H' hj ⟨s, e⟩
  have hj' : j < xs.length := (List.getElem?_eq_some_iff.mp hj).1
  refine ⟨?_, ?_⟩
  · show ((σ.set i none).set i (some x)).set i none = σ.set i none
    rw [List.set_set, List.set_set]
  · show ∃ acc, H' D = some (.lst acc) ∧ acc.length < sizeLine ∧ _
    refine ⟨_, e, Nat.lt_of_le_of_lt (show _ ≤ 100000 by rw [List.length_replicate]; omega) (by decide), ⟨fun b o q => ?_, by rw [upd_same, List.replicate_succ']⟩⟩
    rw [upd_ne (ne_of_none q hD)]; exact s b o q
end
end L2

/-! Defs that may use repr: what is being shown around them is known to be nothing. Equality of data of any depth that there is room for. -/
namespace L2
open PySem PySem.Spec PyProof.Rows
structure RoomG (k : Nat) (A : Around) : Prop extends Room k A where
  gd : A.guards = some []
theorem RoomG.mono {j k : Nat} {A : Around} (r : RoomG k A) (h : j ≤ k) : RoomG j A := ⟨r.toRoom.mono h, r.gd⟩
theorem RoomG.deeper {k : Nat} {A : Around} (r : RoomG (k + 1) A) (env : Env) : RoomG k (A.deeper env) := ⟨r.toRoom.deeper env, r.gd⟩
structure FnG (P : Program) (w : World) (K : PySem.W.Frag) (mg : Str → Option Value) (base : Heap) (CX : CXT) (k : Nat) (f : Addr) (fd : FuncData) (ps : List Str) (sp : Sp) : Prop where
  len : ∀ vs H Q E, sp vs H Q E → vs.length = ps.length
  run : ∀ (A : Around) (outer : List Env) (s : Shared) (H : Hp) (args : Args) (us : List Value) (vs : List V) (Q : VK) (E : XK), RoomG k A → Env0 P w K mg base A outer s H → BindsTo s fd args (ps.zip us) → Vals vs us → sp vs H Q E →
    codeAny (model P w) A (.call (.ref f) args) (CR CX outer P w H s Q E) s
theorem FunD.okG {P : Program} {w : World} {K : PySem.W.Frag} {mg : Str → Option Value} {base : Heap} {x qual : Str} {params : Arguments} {body : List Stmt} {scope : Scope} {dvs : List V} {kws : List (Str × V)} {f : Addr} {fd : FuncData}
    {CX : CXT} {N ps : List Str} {k : Nat} {sp : Sp} (F : FunD K x qual params body scope dvs kws f fd) (S : FnScope N ps scope) (len : ∀ vs H Q E, sp vs H Q E → vs.length = ps.length)
    (hbody : ∀ (cdv : Value) (A : Around) (outer : List Env) (s : Shared) (H : Hp) (vs : List V) (Q : VK) (E : XK), RoomG k (A.deeper (envOfC qual scope s.heap.objs.size f cdv)) → sp vs H Q E →
      ∃ t, PSs (cxOf CX P w K mg base N qual scope f cdv A outer s H E) body t ∧ t { nx := fun _ H' => Q .non H', rt := Q } (start N vs) H) : FnG P w K mg base CX (k + 1) f fd ps sp := by
  obtain ⟨oc, od, dV, kV, doc, pm, an, cdv, ct, osl, rfl, lk, hcd, _, _⟩ := F.ex
  refine ⟨len, fun A outer s H args us vs Q E hr e0 hb r hsp => ?_⟩
  have hl := len _ _ _ _ hsp
  have KX : K.In s.heap := e0.mod.kin.keeps fun b o e => (e0.bs b o e).1
  have lim : s.heap.NoLimit := e0.mod.nolimit.keeps fun b o e => (e0.bs b o e).1
  have hkind : ∀ y ∈ ps.zip us, scope.names.lookup y.1 = some .local ∨ (scope.names.lookup y.1 = some .cell ∧ ((cellsFrom (s.heap.objs.size + 1) scope.names []).lookup y.1).isSome = true) := fun ⟨n, v⟩ hy => by
    rcases S.par n (List.of_mem_zip hy).1 with q | q
    · exact .inl q
    · exact .inr ⟨q, PySem.W.cellsFrom_some _ _ _ (.inl q)⟩
  refine codeAny_call_function hr.toRoom.depth (KX _ _ lk) rfl S.co S.gen rfl (PySem.W.codeRec_of KX hcd) (hb _ _ _ _ ?_)
  refine wpAny_newFunctionEnv_cells S.kind hkind fun env he s1 x => ?_
  subst he
  refine ⟨lim.keeps x.toInCall.keep, codeAny_func ?_⟩
  obtain ⟨t, ht, hq⟩ := hbody cdv A outer s H vs Q E (hr.deeper _) hsp
  have I : Inv (cxOf CX P w K mg base N qual scope f cdv A outer s H E) [] (start N vs) H s1 := inv_start S hr.hd e0 hl r x
  refine wpAny_mono (ht.run [] s1 (start N vs) H _ I hq) (fun fl s' hs => ?_) fun e s' hs => hs
  have fin : ∀ {σ' : St} {H' : Hp} {v : V} {u : Value}, Inv (cxOf CX P w K mg base N qual scope f cdv A outer s H E) [] σ' H' s' → RelV v u → Q v H' → CE outer P w H s Q u s' :=
    fun {σ' H' v u} J rv q => ⟨v, H', J.os, J.bare, J.base, J.hok, rv, q⟩
  cases fl with
  | ret u =>
    obtain ⟨v, σ', H', J, rv, q⟩ := hs
    exact fin J rv q
  | next =>
    obtain ⟨σ', H', J, q⟩ := hs
    exact fin (v := V.non) (u := Value.none) J rfl q
  | brk =>
    obtain ⟨_, _, _, q⟩ := hs
    exact False.elim q
  | cont =>
    obtain ⟨_, _, _, q⟩ := hs
    exact False.elim q
structure CalG (P : Program) (w : World) (K : PySem.W.Frag) (mg : Str → Option Value) (base : Heap) (CX : CXT) (k : Nat) (x : Str) (sp : Sp) : Prop where
  ex : ∃ (f : Addr) (fd : FuncData) (ps : List Str), FnG P w K mg base CX k f fd ps sp ∧ mg x = some (.ref f) ∧ PySem.W.keepIn K (.ref f) = true ∧ Binds K fd ps []
theorem CalX.g {P : Program} {w : World} {K : PySem.W.Frag} {mg : Str → Option Value} {base : Heap} {CX : CXT} {k : Nat} {x : Str} {sp : Sp} (c : CalX P w K mg base CX k x sp) : CalG P w K mg base CX k x sp := by
  obtain ⟨f, fd, ps, F, hm, kp, hb⟩ := c.ex
  exact ⟨f, fd, ps, ⟨F.len, fun A outer s H args us vs Q E hr => F.run A outer s H args us vs Q E hr.toRoom⟩, hm, kp, hb⟩
section
variable {X : Cx} {CX : CXT} {k j : Nat} {x : Str} {sp : Sp} {p pos : Pos} {e : Expr} {es : List Expr} {t : TA} {E : XK} {ES : St → XK}
theorem pe_cg (c : CalG X.prog X.w X.K X.mg X.base CX k x sp) (hr : RoomG j X.A) (hk : k ≤ j) (hg : Gl X x) (hx : Passes CX X E) (ha : PA X (e :: es) t)
    (hdb : (x == ("__debug__" : Str)) = false := by decide) (he : starEach (e :: es) X.env = (false, eval e X.env) :: starEach es X.env := by rfl) (hpl : (backTo pos (starEach es X.env)).any (·.1) = false := by rfl) :
    PE X (.Call (.Name x p) (e :: es) [] pos) (tCall sp [] E t) := by
  obtain ⟨f, fd, ps, F, hm, kp, hb⟩ := c.ex
  refine ⟨fun pins s σ H Q I h => ?_⟩
  refine wpAny_Call_Name_kw (ld_glob I hg hm ?_ hdb)
  refine PySem.W.callWith_K (h₀ := X.base) I.ok.mod.kin kp (thn (ha.run pos pins s σ H _ I h) fun us s1 ⟨vs, H1, I1, r, q⟩ => ⟨I1.kIn, ?_⟩) he hpl
  have q' : sp vs H1 Q E := by simpa using q
  have hl : us.length = ps.length := by rw [← r.length]; exact F.len _ _ _ _ q'
  have hb' := hb s1 us I1.kIn (by simpa using hl)
  rw [List.append_nil] at hb'
  refine wpAny_call (codeAny_mono (F.run X.A X.stack s1 H1 ⟨us, []⟩ us vs Q E (hr.mono hk) I1.env0 hb' r q') fun r s' hq => ?_)
  cases r with
  | error e => exact hx pins σ H1 s1 e s' I1 hq
  | ok fl =>
    cases fl with
    | ret u => exact I1.after hq
    | next => exact False.elim hq
    | brk => exact False.elim hq
    | cont => exact False.elim hq
theorem pe_cgS (c : CalG X.prog X.w X.K X.mg X.base CX k x sp) (hr : RoomG j X.A) (hk : k ≤ j) (hg : Gl X x) (hx : ∀ σ, PassesAt CX X σ (ES σ)) (ha : PA X (e :: es) t)
    (hdb : (x == ("__debug__" : Str)) = false := by decide) (he : starEach (e :: es) X.env = (false, eval e X.env) :: starEach es X.env := by rfl) (hpl : (backTo pos (starEach es X.env)).any (·.1) = false := by rfl) :
    PE X (.Call (.Name x p) (e :: es) [] pos) (tCallS sp ES t) := by
  obtain ⟨f, fd, ps, F, hm, kp, hb⟩ := c.ex
  refine ⟨fun pins s σ H Q I h => ?_⟩
  refine wpAny_Call_Name_kw (ld_glob I hg hm ?_ hdb)
  refine PySem.W.callWith_K (h₀ := X.base) I.ok.mod.kin kp (thn (ha.run pos pins s σ H _ I h) fun us s1 ⟨vs, H1, I1, r, q⟩ => ⟨I1.kIn, ?_⟩) he hpl
  have hl : us.length = ps.length := by rw [← r.length]; exact F.len _ _ _ _ q
  have hb' := hb s1 us I1.kIn (by simpa using hl)
  rw [List.append_nil] at hb'
  refine wpAny_call (codeAny_mono (F.run X.A X.stack s1 H1 ⟨us, []⟩ us vs Q (ES σ) (hr.mono hk) I1.env0 hb' r q) fun r s' hq => ?_)
  cases r with
  | error e => exact hx σ pins H1 s1 e s' I1 hq
  | ok fl =>
    cases fl with
    | ret u => exact I1.after hq
    | next => exact False.elim hq
    | brk => exact False.elim hq
    | cont => exact False.elim hq
end
section
variable {P : Program} {w : World} {K : PySem.W.Frag} {mg : Str → Option Value} {base : Heap}
theorem calg0 {x : Str} {params : Arguments} {body : List Stmt} {scope : Scope} {f : Addr} {fd : FuncData} {N ps : List Str} {k : Nat} {sp : Sp} (F : FunD K x x params body scope [] [] f fd) (hm : mg x = some (.ref f)) (S : FnScope N ps scope)
    (b : Binds K fd ps []) (len : ∀ vs H Q E, sp vs H Q E → vs.length = ps.length)
    (hbody : ∀ (cdv : Value) (A : Around) (outer : List Env) (s : Shared) (H : Hp) (vs : List V) (Q : VK) (E : XK), RoomG k (A.deeper (envOfC x scope s.heap.objs.size f cdv)) → sp vs H Q E →
      ∃ t, PSs (cxOf CX0 P w K mg base N x scope f cdv A outer s H E).nox body t ∧ t { nx := fun _ H' => Q .non H', rt := Q } (start N vs) H) : CalG P w K mg base CX0 (k + 1) x sp :=
  ⟨f, fd, ps, F.okG S len fun cdv A outer s H vs Q E hr h => by
    obtain ⟨t, h1, h2⟩ := hbody cdv A outer s H vs Q E hr h
    exact ⟨t, h1.nox, h2⟩, hm, F.kp, b⟩
theorem calgX {CX : CXT} {x : Str} {params : Arguments} {body : List Stmt} {scope : Scope} {f : Addr} {fd : FuncData} {N ps : List Str} {k : Nat} {sp : Sp} (F : FunD K x x params body scope [] [] f fd) (hm : mg x = some (.ref f)) (S : FnScope N ps scope)
    (b : Binds K fd ps []) (len : ∀ vs H Q E, sp vs H Q E → vs.length = ps.length)
    (hbody : ∀ (cdv : Value) (A : Around) (outer : List Env) (s : Shared) (H : Hp) (vs : List V) (Q : VK) (E : XK), RoomG k (A.deeper (envOfC x scope s.heap.objs.size f cdv)) → sp vs H Q E →
      ∃ t, PSs (cxOf CX P w K mg base N x scope f cdv A outer s H E) body t ∧ t { nx := fun _ H' => Q .non H', rt := Q } (start N vs) H) : CalG P w K mg base CX (k + 1) x sp :=
  ⟨f, fd, ps, F.okG S len hbody, hm, F.kp, b⟩
end
/-! ### repr, == and != of data -/
section
variable {X : Cx} {j : Nat}
/-- data without dicts, at most n deep -/
def DpN (K : PySem.W.Frag) (H : Hp) (n : Nat) (v : V) (d : PyData) : Prop := Dp K H v d ∧ d.canLay0 = true ∧ d.depth ≤ n
def rEqN (K : PySem.W.Frag) : R2 := fun x y H Q => ∃ d e, DpN K H 180 x d ∧ DpN K H 180 y e ∧ Q (.bl (PyData.eqv d e)) H
def rNeN (K : PySem.W.Frag) : R2 := fun x y H Q => ∃ d e, DpN K H 180 x d ∧ DpN K H 180 y e ∧ Q (.bl (!PyData.eqv d e)) H
theorem op_eqN (hr : Room j X.A) : OpR X (compareOp .Eq) (rEqN X.K) := by
  intro pins s σ H x y v u Q I rx ry h
  obtain ⟨d, e, ⟨hd, ld, nd⟩, ⟨he, le, ne⟩, q⟩ := h
  obtain ⟨as, r1⟩ := Dp.reads I d x v hd rx
  obtain ⟨bs, r2⟩ := Dp.reads I e y u he ry
  exact SeqAt.compareEq_reads r1 r2 ld le (by have := hr.un; omega) ⟨.bl _, H, I, rfl, q⟩
theorem op_neN (hr : Room j X.A) : OpR X (compareOp .NotEq) (rNeN X.K) := by
  intro pins s σ H x y v u Q I rx ry h
  obtain ⟨d, e, ⟨hd, ld, nd⟩, ⟨he, le, ne⟩, q⟩ := h
  obtain ⟨as, r1⟩ := Dp.reads I d x v hd rx
  obtain ⟨bs, r2⟩ := Dp.reads I e y u he ry
  exact SeqAt.compareNe_reads r1 r2 ld le (by have := hr.un; omega) ⟨.bl _, H, I, rfl, q⟩
def rInN (K : PySem.W.Frag) : R2 := fun x y H Q => ∃ d ds, DpN K H 180 x d ∧ (DpN K H 180 y (.list ds)) ∧ Q (.bl (ds.any fun z => PyData.eqv z d)) H
def rNotInN (K : PySem.W.Frag) : R2 := fun x y H Q => ∃ d ds, DpN K H 180 x d ∧ (DpN K H 180 y (.list ds)) ∧ Q (.bl (!ds.any fun z => PyData.eqv z d)) H
theorem op_inN (hr : Room j X.A) : OpR X (compareOp .In) (rInN X.K) := by
  intro pins s σ H x y v u Q I rx ry h
  obtain ⟨d, ds, ⟨hd, ld, nd⟩, ⟨he, le, ne⟩, q⟩ := h
  obtain ⟨as, r1⟩ := Dp.reads I d x v hd rx
  obtain ⟨bs, r2⟩ := Dp.reads I (.list ds) y u he ry
  exact SeqAt.in_list_reads r2 r1 (by simpa only [PyData.canLay0] using le) ld (by have := hr.un; omega) ⟨.bl _, H, I, rfl, q⟩
theorem op_notInN (hr : Room j X.A) : OpR X (compareOp .NotIn) (rNotInN X.K) := by
  intro pins s σ H x y v u Q I rx ry h
  obtain ⟨d, ds, ⟨hd, ld, nd⟩, ⟨he, le, ne⟩, q⟩ := h
  obtain ⟨as, r1⟩ := Dp.reads I d x v hd rx
  obtain ⟨bs, r2⟩ := Dp.reads I (.list ds) y u he ry
  exact SeqAt.notIn_list_reads r2 r1 (by simpa only [PyData.canLay0] using le) ld (by have := hr.un; omega) ⟨.bl _, H, I, rfl, q⟩
def rRepr (K : PySem.W.Frag) : List V → Hp → VK → Prop := fun xs H Q => ∃ a d, xs = [.ref a] ∧ DpN K H 180 (.ref a) d ∧ d.showable = true ∧ d.shown.length ≤ sizeLine ∧ Q (.str d.shown) H
theorem call_repr (hr : RoomG j X.A) : CallR X (.builtin "repr") (rRepr X.K) := by
  intro pins s σ H xs us Q I r h
  obtain ⟨a, d, rfl, ⟨hd, ld, nd⟩, hs, hz, q⟩ := h
  cases r with
  | cons rx rr =>
    cases rr
    obtain ⟨as, rd⟩ := Dp.reads I d _ _ hd rx
    cases (show _ = Value.ref a from rx)
    exact repr_of_reads' rd hs (PyData.noDict_hsm (PyData.hasDict_of_canLay d ld)) hr.gd (by have := hr.un; omega) (fun _ _ e => e) (fun h' u tk hk => ⟨.str d.shown, H, I.kept hk, ⟨_, rfl⟩, q⟩) hz
end
/-! ### the law's call -/
theorem callG_core {P : Program} {w : World} {K : PySem.W.Frag} {mg mb : Str → Option Value} {CX : CXT} {k : Nat} {fa a : Addr} {fd : FuncData} {x : Str} {sp : Sp} {s : Shared} {vs : List Value} {H : Hp}
    (KX : K.In s.heap) (gs : s.heap.Ns mainGlobals mg) (bs : s.heap.Ns builtinsNs mb) (bb : ∀ x : Str, x ≠ "__name__" → mb x = bootBuiltins x) (lim : s.heap.NoLimit) (hg : s.gens = #[])
    (ha : s.heap.get? a = some { cls := .type "list", data := .seq vs.toArray }) (hr : Room k callerA)
    (F : ∀ base : Heap, K.In base → base.Ns mainGlobals mg → FnG P w K mg base CX k fa fd [x] sp) (bind : ∀ (s : Shared) (u : Value), BindsTo s fd ⟨[u], []⟩ [(x, u)])
    (hsp : sp [.ref a] H (fun v _ => v = .bl true) fun _ _ _ => False) (hCX : ∀ H e s', CX [] H s (fun _ _ _ => False) e s' → False)
    (only : Only H) (ok : HOk P w H s.heap) (hA : ∀ b, H b ≠ none → b = a) (hK : H a ≠ none → K.lookup a = none) :
    codeAny (model P w) callerA (.call (.ref fa) ⟨[.ref a], []⟩) (fun r s' => r = .ok (.ret (.bool true)) ∧ OldK s.heap s'.heap ∧ s'.os = s.os ∧ AllBare s'.gens) s := by
  have at_ : ∀ {b : Addr}, H b ≠ none → s.heap.get? b = some { cls := .type "list", data := .seq vs.toArray } := fun {b} z => by rw [hA b z]; exact ha
  have ns : ∀ {b : Addr} {m : Str → Option Value}, s.heap.Ns b m → (hidT s.heap H).Ns b m := by
    rintro b m ⟨o, es, ep, e, d, r⟩
    refine ⟨o, es, ep, hidT_get e (Classical.byContradiction fun z => ?_), d, r⟩
    have e2 := e.symm.trans (at_ z)
    cases e2
    cases (show Data.seq vs.toArray _ = Data.dict es ep from d)
  have kin : K.In (hidT s.heap H) := fun b o e => hidT_get (KX b o e) (Classical.byContradiction fun z => by
    have zb := hA b z
    subst zb
    rw [hK z] at e
    cases e)
  have md : Mod K mg (hidT s.heap H) := ⟨kin, ns gs, ⟨mb, ns bs, bb⟩, by obtain ⟨mc, h1, h2⟩ := lim; exact ⟨mc, ns h1, h2⟩⟩
  have env : Env0 P w K mg (hidT s.heap H) callerA [] s H :=
    { frames := rfl, mod := md, bs := fun b o e => of_hidT e, bsz := Nat.le_of_eq (hidT_size _ _), funs := trivial, frf := (fun b hb => by cases (show b ∈ ([] : List Addr) from hb)), hok := ok, bare := .of_eq hg }
  have run := (F _ kin (ns gs)).run callerA [] s H ⟨[.ref a], []⟩ [.ref a] [.ref a] _ _ ⟨hr, rfl⟩ env (bind s (.ref a)) (.cons rfl .nil) hsp
  refine codeAny_mono run fun r s' h => ?_
  match r, h with
  | .error e, h => exact (hCX H e s' h).elim
  | .ok .next, h => exact False.elim h
  | .ok .brk, h => exact False.elim h
  | .ok .cont, h => exact False.elim h
  | .ok (.ret u), ⟨v, H', os, bare, un, ok', rv, q⟩ =>
    have q : v = .bl true := q
    subst q
    have eu : u = Value.bool true := rv
    subst eu
    refine ⟨rfl, OldK.of_keep fun b o e => ?_, os, bare⟩
    rcases only b with z | ⟨ob, xs, z⟩
    · exact un.keep b o e z (by intro y; cases (show b ∈ ([] : List Addr) from y)) (by simp)
    · have e1 := (ok b _ z).1
      have e2 := (ok' b _ (un.frzs b ob _ z)).1
      rw [e] at e1
      cases e1
      exact e2
theorem law_callG {P : Program} {w : World} {K : PySem.W.Frag} {mg mb : Str → Option Value} {CX : CXT} {k : Nat} {fa a : Addr} {fd : FuncData} {x : Str} {sp : Sp} {s : Shared} {vs : List Value} {ns : List Int}
    (KX : K.In s.heap) (gs : s.heap.Ns mainGlobals mg) (bs : s.heap.Ns builtinsNs mb) (bb : ∀ x : Str, x ≠ "__name__" → mb x = bootBuiltins x) (lim : s.heap.NoLimit) (hg : s.gens = #[])
    (ha : s.heap.get? a = some { cls := .type "list", data := .seq vs.toArray }) (hi : IntsAre vs ns) (hl : ns.length ≤ sizeLine) (hr : Room k callerA)
    (F : ∀ base : Heap, K.In base → base.Ns mainGlobals mg → FnG P w K mg base CX k fa fd [x] sp) (bind : ∀ (s : Shared) (u : Value), BindsTo s fd ⟨[u], []⟩ [(x, u)])
    (hsp : ∀ H : Hp, Only H → SqL K H a (ns.map V.int) → sp [.ref a] H (fun v _ => v = .bl true) fun _ _ _ => False) (hCX : ∀ H e s', CX [] H s (fun _ _ _ => False) e s' → False) :
    codeAny (model P w) callerA (.call (.ref fa) ⟨[.ref a], []⟩) (fun r s' => r = .ok (.ret (.bool true)) ∧ OldK s.heap s'.heap ∧ s'.os = s.os ∧ AllBare s'.gens) s := by
  have rv := vals_ints hi
  cases hk : K.lookup a with
  | some o =>
    have e := KX a o hk
    rw [ha] at e
    cases e
    refine callG_core (H := fun _ => none) KX gs bs bb lim hg ha hr F bind (hsp _ (fun _ => .inl rfl) (.inr ⟨_, vs.toArray, _, hk, rfl, rfl, rfl, ?_, by simpa using rv⟩)) hCX (fun _ => .inl rfl) (fun b u z => ?_) (fun b z => absurd rfl z) (fun z => absurd rfl z)
    · have := hi.length
      rw [List.size_toArray]; omega
    · cases (show (none : Option HO) = some u from z)
  | none =>
    let S : HO := .frz { cls := .type "list", data := .seq vs.toArray } (.lst (ns.map V.int))
    have on : ∀ b, (fun b => if b = a then some S else none : Hp) b = none ∨ ∃ o xs, (fun b => if b = a then some S else none : Hp) b = some (.frz o (.lst xs)) := fun b => by
      by_cases h : b = a
      · exact .inr ⟨_, _, if_pos h⟩
      · exact .inl (if_neg h)
    refine callG_core (H := fun b => if b = a then some S else none) KX gs bs bb lim hg ha hr F bind (hsp _ on (.inl (.inr ⟨_, if_pos rfl⟩))) hCX on (fun b u z => ?_) (fun b z => Classical.byContradiction fun h => z (if_neg h)) (fun _ => hk)
    by_cases h : b = a
    · have z' := (if_pos h).symm.trans z
      cases z'
      subst h
      exact ⟨ha, by rw [List.length_map]; exact hl, vs, _, rv, ha⟩
    · have z' := (if_neg h).symm.trans z
      cases z'
theorem walk_ofG {l : PySem.W.OpenLaw} {n k : Nat} {q : Program} {loose : List Str} {XP : (Str → Option Value) → Heap → Prop} {YP : World → Heap → Prop} {d : DefRec} {CX : CXT} {x : Str}
    (hn : l.most = some n) (hn2 : n ≤ sizeLine) (hdf : d.params.defaults = []) (hr : Room k callerA)
    (F : ∀ (w : World) (mg : Str → Option Value) (fa : Addr) (h : Heap), YP w h → h.Ns mainGlobals mg → mg d.name = some (.ref fa) →
      ∃ (K : PySem.W.Frag) (fd : FuncData) (sp : Sp), K.In h ∧ (∀ (s : Shared) (u : Value), BindsTo s fd ⟨[u], []⟩ [(x, u)]) ∧
        (∀ (H : Hp) (a : Addr) (ns : List Int), ns.length ≤ n → Only H → SqL K H a (ns.map V.int) → sp [.ref a] H (fun v _ => v = .bl true) fun _ _ _ => False) ∧
        ∀ base : Heap, K.In base → base.Ns mainGlobals mg → FnG l.prog w K mg base CX k fa fd [x] sp)
    (hCX : ∀ (H : Hp) (s : Shared) (e : Value) (s' : Shared), CX [] H s (fun _ _ _ => False) e s' → False) :
    PySem.W.WalkO q loose XP YP l.row.toRowW d [] (fun f vs => PySem.call f vs) := by
  refine Att.attach_call hn hdf fun w s₀ s₁ mg mb fa o pm cd doc a vs ns G Y ho hd hcd hmg hobj hints hlen hg => ?_
  obtain ⟨K, fd, sp, KX, hb, hsp, hF⟩ := F w mg fa _ Y G.T.g hmg
  exact law_callG KX G.T.g G.T.b G.T.builtins G.T.nolimit hg hobj hints (Nat.le_trans hlen hn2) hr hF hb (fun H hO hS => hsp H a ns hlen hO hS) fun H e s' => hCX H s₁ e s'
end L2

/-! Exceptions whose __init__ takes nothing and says super().__init__(text): they have no dict of their own. -/
namespace PySem
namespace HallX
open PySem.W PySem.Calls PyProof.Rows PySem.HandSPX
structure OwnMade0 (h h' : Heap) (e C : Addr) : Prop where
  keep : ∀ b o, h.get? b = some o → h'.get? b = some o
  new : h.objs.size ≤ e
  obj : ∃ oe vs, h'.get? e = some oe ∧ oe.cls = .ref C ∧ oe.dict = none ∧ oe.data = .fields vs ∧ vs[1]? = some .none
structure Init0 (prog : Program) (w : World) (qual : Str) (params : Arguments) (body : List Stmt) (scope : Scope) : Prop where
  head : ∃ a1 : Arg, a1.arg = "self" ∧ (params.posonlyargs ++ params.args).head? = some a1
  bind : ∀ (kV doc pm : Value) (an : Option Addr) (cdv ct : Value) (cc : Addr) (u : Value), bindArgs (ksFn "__init__" qual params body scope .none kV doc pm an cdv ct cc) ⟨[u], []⟩ = pure [(("self" : Str), u)]
  bd : ∃ (p0 p1 p2 p3 p4 : Pos) (msg : Expr) (pl : Sem Bool), body = [.Expr (.Call (.Attribute (.Call (.Name "super" p0) [] [] p1) "__init__" p2) [msg] [] p3) p4] ∧
    (∀ (L fI cc : Addr) (cd : Value) (m : Str → Option Value), MsgOk prog w (ksEnv qual scope L fI cd cc) L m msg) ∧
    (∀ (env : Env), env.scope = scope → starEach [msg] env = [(false, eval msg env)]) ∧
    (∀ (env : Env), env.scope = scope → eval (.Call (.Attribute (.Call (.Name "super" p0) [] [] p1) "__init__" p2) [msg] [] p3) env = (do
      let ov ← attributeBase (.Call (.Name "super" p0) [] [] p1) "__init__" env (eval (.Call (.Name "super" p0) [] [] p1) env)
      standAt p2.atName
      let (f, first) ← holding [ov] (getMethod ov "__init__" pl)
      callWith p3 f first (backTo p3 (starEach [msg] env)) []))
  hks : scope.names.lookup ("super" : Str) = some .globalImplicit
  hkc : scope.names.lookup ("__class__" : Str) = some .free
  hka : scope.names.lookup ("self" : Str) = some .local
  hk : scope.kind = .function
  hco : scope.isCoroutine = false
  hgen : scope.isGenerator = false
  hcell : ∀ x ∈ scope.names, x.2 ≠ .cell
section
variable {prog : Program} {w : World} {A : Around} {R : Result → Shared → Prop} {s : Shared} {K : Frag} {mg mb : Str → Option Value} {x : Str} {C fI cc cda : Addr} {qual : Str} {params : Arguments} {body : List Stmt} {scope : Scope}
theorem hall_init0 {e t0 : Addr} (T : HallTxt prog K mg x C fI cc cda qual params body scope) (I : Init0 prog w qual params body scope)
    (X : K.In s.heap) (G : s.heap.Ns mainGlobals mg) (Gb : s.heap.Ns builtinsNs mb) (hb : mb "super" = some (.type "super")) (hlim : s.heap.NoLimit) (he : s.heap.get? e = some (excO C t0)) (hne : K.lookup e = none)
    (hroom : A.depth < recursionLimit)
    (hq : ∀ h' tk t1, (∀ b o, b ≠ e → s.heap.get? b = some o → h'.get? b = some o) → h'.get? e = some (excO C t1) → R (.ok (.ret .none)) { s with heap := h', toks := tk }) :
    codeAny (model prog w) A (.call (.ref fI) ⟨[.ref e], []⟩) R s := by
  obtain ⟨oc, od, dV, kV, doc, pm, an, ct, osl, hf, hcd, hdv⟩ := T.fn
  obtain ⟨p0, p1, p2, p3, p4, msg, pl, rfl, hm, hst, hev⟩ := I.bd
  refine ks_codeAny_call_defAt (body := _) (binds := [(("self" : Str), .ref e)]) hroom (X _ _ hf) rfl hlim (codeRec_of X hcd) rfl (by subst hdv; exact BindsTo.of_eq (I.bind _ _ _ _ _ _ _ _)) I.hcell (fun z hz => ?_) (fun h₁ hns hk₁ => ?_) I.hco I.hgen I.hk
  · rcases List.mem_cons.mp hz with rfl | hz
    · exact I.hka
    · cases hz
  · show _root_.PySem.wpAt (model prog w) _ (.func _ (ksEnv qual scope s.heap.objs.size fI (.ref cda) cc)) (execs _ (ksEnv qual scope s.heap.objs.size fI (.ref cda) cc)) _ _ _
    have ms : (fun z => ([(("self" : Str), Value.ref e)] : List (Str × Value)).reverse.lookup z) "self" = some (.ref e) := by
      show List.lookup ("self" : Str) ([(("self" : Str), Value.ref e)] : List (Str × Value)) = some (.ref e)
      simp [List.lookup]
    obtain ⟨a1, ha1, hpar⟩ := I.head
    refine ks_wpAt_execs_cons (super_init (t0 := t0) (mb := mb) (pl := pl) (ar := a1) T (X.keeps hk₁) (G.keeps hk₁) (Gb.keeps hk₁) hb hns (hk₁ _ _ he) hne hpar (by rw [ha1]; exact ms) I.hks I.hkc (by rw [ha1]; exact I.hka) I.hk
      (hm _ _ _ _ _) (hst _ rfl) (hev _ rfl) (fun h' tk t1 k' e' => ?_))
    refine _root_.PySem.wpAt_of_wpAny ?_
    show wpAny _ _ (execs [] _) _ _ _
    exact wpAny_execs_nil (hq h' tk t1 (fun b o hbe z => k' b o hbe (hk₁ b o z)) e')
theorem hall_made0 (T : HallTxt prog K mg x C fI cc cda qual params body scope) (I : Init0 prog w qual params body scope)
    (X : K.In s.heap) (G : s.heap.Ns mainGlobals mg) (Gb : s.heap.Ns builtinsNs mb) (hb : mb "super" = some (.type "super")) (hlim : s.heap.NoLimit) (hroom : A.depth + 1 < recursionLimit)
    (hq : ∀ h' tk e, OwnMade0 s.heap h' e C → R (.ok (.ret (.ref e))) { s with heap := h', toks := tk }) :
    codeAny (model prog w) A (.call (.ref C) ⟨[], []⟩) R s := by
  obtain ⟨nm, q, N, bs, bm, sn, sub, ab, col, dd, k0, k1, k2, k3, k5, hC, hbm⟩ := T.cls
  obtain ⟨hp, g, dr, tk, os⟩ := s
  have k : ∀ b o, hp.get? b = some o → ((hp.push (kdv_tup [])).push (excO C hp.objs.size)).get? b = some o := fun b o e => Heap.get?_push_of_some _ (Heap.get?_push_of_some _ e)
  have hget : ((hp.push (kdv_tup [])).push (excO C hp.objs.size)).get? (hp.objs.size + 1) = some (excO C hp.objs.size) := by heap_get
  have hnx : K.lookup (hp.objs.size + 1) = none := by
    cases e : K.lookup (hp.objs.size + 1) with
    | none => rfl
    | some o =>
      have z : hp.get? (hp.objs.size + 1) = some o := X _ _ e
      exact absurd (Nat.lt_of_succ_lt (Heap.lt_size z)) (Nat.lt_irrefl _)
  refine call_own F.excBase_ValueError (fun X => refsVE_contains X bm hbm) (X _ _ hC) (looks_findIn X T.iC) (fun self => bind_fn X self T.tI) (Nat.zero_le _) ?_
  refine hall_init0 (s := ⟨(hp.push (kdv_tup [])).push (excO C hp.objs.size), g, dr, tk, os⟩) T I (X.keeps k) (G.keeps k) (Gb.keeps k) hb (hlim.keeps k) hget hnx ?_ fun h' tk' t1 k' hx => ?_
  · show A.depth + 1 < recursionLimit
    exact hroom
  · have old : ∀ b o, hp.get? b = some o → h'.get? b = some o := fun b o e => k' b o (Nat.ne_of_lt (Nat.lt_succ_of_lt (Heap.lt_size e))) (k b o e)
    exact ⟨rfl, hq h' tk' (hp.objs.size + 1) ⟨old, Nat.le_succ _, ⟨_, _, hx, rfl, rfl, rfl, rfl⟩⟩⟩
end
end HallX
end PySem
namespace L2
open PySem PySem.Spec PyProof.Rows PySem.HallX
section
variable {X : Cx} {x qual : Str} {C fI cc cda : Addr} {params : Arguments} {body : List Stmt} {scope : Scope}
theorem pmk_hall0 {p pos : Pos} {k : Nat} (T : HallTxt X.prog X.K X.mg x C fI cc cda qual params body scope) (J : Init0 X.prog X.w qual params body scope)
    (hr : Room k X.A) (hg : Gl X x) (hd : (x == ("__debug__" : Str)) = false := by decide) : PMk X (.Call (.Name x p) [] [] pos) (fun _ H Q => Q (.ref C) none H) := by
  intro pins s σ H Q I h
  refine wpAny_Call_Name_kw (ld_glob I hg T.gC ?_ hd)
  refine PySem.W.callWith_K0 I.kIn T.kC ?_
  have hlim := I.nolimit
  obtain ⟨mb, hb1, hb2⟩ := I.mod.blt
  have G := I.mod.glob.keeps I.bk
  have Gb := hb1.keeps I.bk
  have hb : mb "super" = some (.type "super") := (hb2 "super" (by decide)).trans boot_super
  have hkin := I.kIn
  obtain ⟨hp, g, dr, tk, os⟩ := s
  refine wpAny_call (hall_made0 (mb := mb) T J hkin G Gb hb hlim (by have := hr.dp; omega) fun h' tk' e M => ?_)
  show MkP X pins σ Q (.ref e) ⟨h', g, dr, tk', os⟩
  obtain ⟨oe, fv, hoe, hc, hd, hdat, h1⟩ := M.obj
  have ge : hp.get? e = none := by
    cases q : hp.get? e with
    | none => rfl
    | some o => exact absurd (Heap.lt_size q) (Nat.not_lt.mpr M.new)
  exact ⟨e, oe, fv, ⟨hp, g, dr, tk, os⟩, _, .ref C, none, rfl, I, fun b o q => M.keep b o q, ge, hoe, ⟨hc, hd⟩, hdat, h1, I.hok.fresh M.new, rfl, I.bare, raises_own T.exC T.tyC, h⟩
/-- raise C() -/
theorem ps_raise0 {W : WX} {p pos pos2 : Pos} {k : Nat} (hc : X.calm = true) (T : HallTxt X.prog X.K X.mg x C fI cc cda qual params body scope) (J : Init0 X.prog X.w qual params body scope)
    (hr : Room k X.A) (tk : Takes X W) (hg : Gl X x) (hd : (x == ("__debug__" : Str)) = false := by decide) :
    PS X (.Raise (some (.Call (.Name x p) [] [] pos)) none pos2) (fun _ σ H => W (.ref C) none σ H) := ps_raise hc tk (pmk_hall0 T J hr hg hd)
end
/-- isinstance(e, c) of a caught error without a dict -/
def rIsEn (K : PySem.W.Frag) (a : Addr) (cls : Value) (d : Option Addr) : List V → Hp → VK → Prop := fun xs H Q => ∃ (c : V) (cv : Value) (b : Bool) (D : Addr), xs = [.ref a, c] ∧ cls = .ref D ∧ ExcC K D ∧ d = none ∧
  (∀ u, RelV c u → u = cv) ∧ PySem.W.kitOne K (.ref D) cv = some b ∧ Q (.bl b) H
theorem call_isEn {X : Cx} {a : Addr} {cls : Value} {d : Option Addr} {oe : Obj} {pn : List (Addr × Obj)} (hz : Zc cls d oe) (hf : ∃ vs, oe.data = .fields vs) : CallR (X.suite a ((a, oe) :: pn)) (.builtin "isinstance") (rIsEn X.K a cls d) := by
  intro pins s σ H xs us Q I r h
  obtain ⟨c, cv, b, D, rfl, rfl, C, rfl, hcv, e, q⟩ := h
  exact call_isE C hz hf pins s σ H _ us Q I r ⟨c, cv, b, rfl, hcv, e, q⟩
end L2

namespace K02
open PySem PySem.Spec PyProof.Rows L2
abbrev P : Program := PySem.Challenge.pw_lemmahall_k02_well_formed
def top (i : Nat) : Stmt := PySem.Challenge.pw_lemmahall_k02_well_formed.main.body.getD i (.Pass ⟨0, 0, 0, 0⟩)
abbrev s_is_name : Stmt := top 11
abbrev s_kind_parts : Stmt := top 12
abbrev s_kind_ok : Stmt := top 13
abbrev s_measure : Stmt := top 18
abbrev s_form_ok : Stmt := top 19
abbrev s_made_well : Stmt := top 20
abbrev s_fitting_kind : Stmt := top 21
abbrev s_well_formed : Stmt := top 22
abbrev s_kind_of : Stmt := top 23
abbrev s_law_pot : Stmt := top 25
abbrev s_law_take : Stmt := top 26
abbrev s_law_mended : Stmt := top 27
abbrev s_law_name : Stmt := top 28
abbrev s_law_near : Stmt := top 29
abbrev s_law_words : Stmt := top 30
abbrev s_law_same : Stmt := top 31
abbrev s_law_pool : Stmt := top 32
abbrev s_law_tip : Stmt := top 33
abbrev s_law_grown : Stmt := top 34
abbrev s_law_built : Stmt := top 35
abbrev s_law_depth : Stmt := top 36
abbrev s_law_arounds : Stmt := top 37
abbrev s_law_typed : Stmt := top 38
abbrev s_law_told : Stmt := top 39
abbrev s_law_ask : Stmt := top 40
abbrev s_law_long : Stmt := top 41
abbrev s_law_odd_kind : Stmt := top 42
abbrev s_law_odd : Stmt := top 43
abbrev s_law_odd_name : Stmt := top 44
abbrev s_law_spots : Stmt := top 45
abbrev s_law_changed : Stmt := top 46
abbrev s_law_with_kind : Stmt := top 47
abbrev s_law_ask_general : Stmt := top 48
abbrev s_law_wide : Stmt := top 49
abbrev s_law_deep : Stmt := top 50
abbrev s_law_ask_logical : Stmt := top 51
abbrev s_law_round : Stmt := top 52
abbrev s_law : Stmt := top 53
def dd (x : Str) (i : Nat) : He.DefD := ⟨(x, none), x, x, defArgs (top i), defBody (top i), defScope (top i), [], []⟩
def ddm (c m q : Str) (i j : Nat) : He.DefD := ⟨(c, some m), m, q, defArgs (inClass (top i) j), defBody (inClass (top i) j), defScope (inClass (top i) j), [], []⟩
def fn : List He.DefD := ([dd "is_name" 11, dd "_kind_parts" 12, dd "kind_ok" 13, dd "measure" 18, dd "_form_ok" 19, dd "_made_well" 20, dd "_fitting_kind" 21, dd "well_formed" 22, dd "kind_of" 23, dd "_law_pot" 25, dd "_law_take" 26, dd "_law_mended" 27, dd "_law_name" 28, dd "_law_near" 29, dd "_law_words" 30, dd "_law_same" 31, dd "_law_pool" 32, dd "_law_tip" 33, dd "_law_grown" 34, dd "_law_built" 35, dd "_law_depth" 36, dd "_law_arounds" 37, dd "_law_typed" 38, dd "_law_told" 39] : List He.DefD) ++ ([dd "_law_ask" 40, dd "_law_long" 41, dd "_law_odd_kind" 42, dd "_law_odd" 43, dd "_law_odd_name" 44, dd "_law_spots" 45, dd "_law_changed" 46, dd "_law_with_kind" 47, dd "_law_ask_general" 48, dd "_law_wide" 49, dd "_law_deep" 50, dd "_law_ask_logical" 51, dd "_law_round" 52, dd "law" 53] : List He.DefD)
def fa : List He.Fa := ([.glo "is_name", .glo "_kind_parts", .glo "kind_ok", .glo "measure", .glo "_form_ok", .glo "_made_well", .glo "_fitting_kind", .glo "well_formed", .glo "kind_of", .glo "_law_pot", .glo "_law_take", .glo "_law_mended", .glo "_law_name", .glo "_law_near", .glo "_law_words", .glo "_law_same", .glo "_law_pool", .glo "_law_tip", .glo "_law_grown", .glo "_law_built", .glo "_law_depth", .glo "_law_arounds", .glo "_law_typed", .glo "_law_told"] : List He.Fa) ++ ([.glo "_law_ask", .glo "_law_long", .glo "_law_odd_kind", .glo "_law_odd", .glo "_law_odd_name", .glo "_law_spots", .glo "_law_changed", .glo "_law_with_kind", .glo "_law_ask_general", .glo "_law_wide", .glo "_law_deep", .glo "_law_ask_logical", .glo "_law_round", .glo "law", .free "isinstance", .free "str", .free "len", .free "tuple", .free "max", .free "int", .free "bool", .free "abs", .free "range", .free "repr"] : List He.Fa) ++ ([.free "ValueError", .free "min", .glo "BOOL", .int "KIND_NODES" 100, .str "_LETTERS" "abcdefghijklmnopqrstuvwxyz", .str "_NAME_SIGNS" "abcdefghijklmnopqrstuvwxyz0123456789_", .int "_NAME_LENGTH" 16, .glo "_RESERVED", .int "MAX_NODES" 400, .int "MAX_DEPTH" 50, .glo "LOGIC_WORDS", .glo "HallError", .glo "InvalidTerm", .glo "TooLarge", .exm "InvalidTerm" "InvalidTerm" true] : List He.Fa)
def h_InvalidTerm : HallHt.HallD := ⟨"InvalidTerm", "", "InvalidTerm.__init__", defArgs (inClass (top 2) 0), defBody (inClass (top 2) 0), defScope (inClass (top 2) 0)⟩
def hs : List HallHt.HallD := [h_InvalidTerm]
def file : Str := PySem.Challenge.pw_lemmahall_k02_well_formed.main.file
def tb_BOOL : List He.Dv := ([.str "named", .str "bool"] : List He.Dv)
def tb_RESERVED : List He.Dv := ([.str "all", .str "some", .str "lam", .str "true", .str "false", .str "bool"] : List He.Dv)
def tb_LOGIC_WORDS : List He.Dv := ([.str "true", .str "false", .str "~", .str "&", .str "|", .str "=>", .str "=", .str "all", .str "some"] : List He.Dv)
def ts : List He.Tab := []
def exl (K : PySem.W.Frag) : List Bool := ([He.tupB K "BOOL" tb_BOOL, He.tupB K "_RESERVED" tb_RESERVED, He.tupB K "LOGIC_WORDS" tb_LOGIC_WORDS, HallHt.hallB file K h_InvalidTerm, HallHt.noFld K h_InvalidTerm, decide (PySem.W.kitOne K (.ref (He.ga K "InvalidTerm")) (.ref (He.ga K "HallError")) = some true), decide (PySem.W.kitOne K (.ref (He.ga K "InvalidTerm")) (.ref (He.ga K "TooLarge")) = some false), decide (PySem.W.kitOne K (.ref (He.ga K "InvalidTerm")) (.type "ValueError") = some true)] : List Bool)
def ex (K : PySem.W.Frag) : Bool := (exl K).all id
abbrev R : PySem.W.OpenRow := PySem.W.OpenLaw.row PySem.Challenge.rw_lemmahall_k02_well_formed
abbrev hk : PySem.W.Hook := HallHt.hookH 5 fa fn hs ex ts
def ob (s : PySem.W.SharedT) : HallHt.AlH := HallHt.obsHG 5 fa fn hs ex ts (HandSHeadRun.getT s)
theorem ob_eq (s : PySem.W.SharedT) : ob s = hk.obs s.abs := HallHt.obsHG_eq (HandSHeadRun.getT_eq s)
def loose : List PySem.Str := (["HallError", "InvalidTerm", "TooLarge", "BOOL", "KIND_NODES", "_LETTERS", "_NAME_SIGNS", "_NAME_LENGTH", "_RESERVED", "MAX_NODES", "MAX_DEPTH", "LOGIC_WORDS", "is_name", "_kind_parts", "kind_ok", "measure", "_form_ok", "_made_well", "_fitting_kind", "well_formed", "kind_of", "_law_pot", "_law_take", "_law_mended"] : List PySem.Str) ++ (["_law_name", "_law_near", "_law_words", "_law_same", "_law_pool", "_law_tip", "_law_grown", "_law_built", "_law_depth", "_law_arounds", "_law_typed", "_law_told", "_law_ask", "_law_long", "_law_odd_kind", "_law_odd", "_law_odd_name", "_law_spots", "_law_changed", "_law_with_kind", "_law_ask_general", "_law_wide", "_law_deep", "_law_ask_logical"] : List PySem.Str) ++ (["_law_round"] : List PySem.Str)
theorem run (w : World) : HandSHeadRun.RunEq R (PySem.W.view R.prog [53]) hk ob 3000 loose w := by
  intro os
  kernel_rfl
/-- what the top has written, by names -/
structure Txt (w : World) (K : PySem.W.Frag) (mg : Str → Option Value) : Prop where
  f_isinstance : mg "isinstance" = none
  f_str : mg "str" = none
  f_len : mg "len" = none
  f_tuple : mg "tuple" = none
  f_max : mg "max" = none
  f_int : mg "int" = none
  f_bool : mg "bool" = none
  f_abs : mg "abs" = none
  f_range : mg "range" = none
  f_repr : mg "repr" = none
  f_ValueError : mg "ValueError" = none
  f_min : mg "min" = none
  v_BOOL : ∃ u, mg "BOOL" = some u ∧ RelV (.ref (He.ga K "BOOL")) u
  v_KIND_NODES : ∃ u, mg "KIND_NODES" = some u ∧ RelV (.int 100) u
  v_LETTERS : ∃ u, mg "_LETTERS" = some u ∧ RelV (.str "abcdefghijklmnopqrstuvwxyz") u
  v_NAME_SIGNS : ∃ u, mg "_NAME_SIGNS" = some u ∧ RelV (.str "abcdefghijklmnopqrstuvwxyz0123456789_") u
  v_NAME_LENGTH : ∃ u, mg "_NAME_LENGTH" = some u ∧ RelV (.int 16) u
  v_RESERVED : ∃ u, mg "_RESERVED" = some u ∧ RelV (.ref (He.ga K "_RESERVED")) u
  v_MAX_NODES : ∃ u, mg "MAX_NODES" = some u ∧ RelV (.int 400) u
  v_MAX_DEPTH : ∃ u, mg "MAX_DEPTH" = some u ∧ RelV (.int 50) u
  v_LOGIC_WORDS : ∃ u, mg "LOGIC_WORDS" = some u ∧ RelV (.ref (He.ga K "LOGIC_WORDS")) u
  v_HallError : ∃ u, mg "HallError" = some u ∧ RelV (.ref (He.ga K "HallError")) u
  g_HallError : mg "HallError" = some (.ref (He.ga K "HallError"))
  v_InvalidTerm : ∃ u, mg "InvalidTerm" = some u ∧ RelV (.ref (He.ga K "InvalidTerm")) u
  g_InvalidTerm : mg "InvalidTerm" = some (.ref (He.ga K "InvalidTerm"))
  v_TooLarge : ∃ u, mg "TooLarge" = some u ∧ RelV (.ref (He.ga K "TooLarge")) u
  g_TooLarge : mg "TooLarge" = some (.ref (He.ga K "TooLarge"))
  x_InvalidTerm_InvalidTerm : PySem.W.exmOne K (.ref (He.ga K "InvalidTerm")) (.ref (He.ga K "InvalidTerm")) = some true
  t_BOOL : ∀ H, SqT K H (He.ga K "BOOL") (tb_BOOL.map (He.Dv.v K))
  t_RESERVED : ∀ H, SqT K H (He.ga K "_RESERVED") (tb_RESERVED.map (He.Dv.v K))
  t_LOGIC_WORDS : ∀ H, SqT K H (He.ga K "LOGIC_WORDS") (tb_LOGIC_WORDS.map (He.Dv.v K))
  h_InvalidTerm : PySem.HallX.HallTxt PySem.Challenge.pw_lemmahall_k02_well_formed K mg "InvalidTerm" (HallHt.cAd K "InvalidTerm") (HallHt.iAd K "InvalidTerm") (HallHt.cellAd K "InvalidTerm") (HallHt.codeAd K "InvalidTerm") h_InvalidTerm.qual h_InvalidTerm.params h_InvalidTerm.body h_InvalidTerm.scope
  e_InvalidTerm : ExcC K (HallHt.cAd K "InvalidTerm")
  n_InvalidTerm : PySem.W.findIn K (.ref (HallHt.cAd K "InvalidTerm")) "" = some none
  k_InvalidTerm_HallError : PySem.W.kitOne K (.ref (He.ga K "InvalidTerm")) (.ref (He.ga K "HallError")) = some true
  k_InvalidTerm_TooLarge : PySem.W.kitOne K (.ref (He.ga K "InvalidTerm")) (.ref (He.ga K "TooLarge")) = some false
  k_InvalidTerm_ValueError : PySem.W.kitOne K (.ref (He.ga K "InvalidTerm")) (.type "ValueError") = some true
theorem exl_at {K : PySem.W.Frag} (h : ex K = true) (i : Nat) {b : Bool} (e : (exl K)[i]? = some b) : b = true := by
  have z := List.all_eq_true.mp h b (List.mem_of_getElem? e)
  exact z
theorem txt_of {w : World} {K : PySem.W.Frag} {h : Heap} {mg : Str → Option Value} (X : K.In h) (G : h.Ns mainGlobals mg) (c : HallHt.SaysH fa fn hs ex ts w K) : Txt w K mg where
  f_isinstance := He.free_ok X G (c.d.fact 38 (f := .free "isinstance") rfl)
  f_str := He.free_ok X G (c.d.fact 39 (f := .free "str") rfl)
  f_len := He.free_ok X G (c.d.fact 40 (f := .free "len") rfl)
  f_tuple := He.free_ok X G (c.d.fact 41 (f := .free "tuple") rfl)
  f_max := He.free_ok X G (c.d.fact 42 (f := .free "max") rfl)
  f_int := He.free_ok X G (c.d.fact 43 (f := .free "int") rfl)
  f_bool := He.free_ok X G (c.d.fact 44 (f := .free "bool") rfl)
  f_abs := He.free_ok X G (c.d.fact 45 (f := .free "abs") rfl)
  f_range := He.free_ok X G (c.d.fact 46 (f := .free "range") rfl)
  f_repr := He.free_ok X G (c.d.fact 47 (f := .free "repr") rfl)
  f_ValueError := He.free_ok X G (c.d.fact 48 (f := .free "ValueError") rfl)
  f_min := He.free_ok X G (c.d.fact 49 (f := .free "min") rfl)
  v_BOOL := ⟨_, He.glo_ok X G (c.d.fact 50 (f := .glo "BOOL") rfl), rfl⟩
  v_KIND_NODES := by obtain ⟨t, e⟩ := He.int_ok X G (c.d.fact 51 (f := .int "KIND_NODES" 100) rfl); exact ⟨_, e, ⟨t, rfl⟩⟩
  v_LETTERS := by obtain ⟨t, e⟩ := He.str_ok X G (c.d.fact 52 (f := .str "_LETTERS" "abcdefghijklmnopqrstuvwxyz") rfl); exact ⟨_, e, ⟨t, rfl⟩⟩
  v_NAME_SIGNS := by obtain ⟨t, e⟩ := He.str_ok X G (c.d.fact 53 (f := .str "_NAME_SIGNS" "abcdefghijklmnopqrstuvwxyz0123456789_") rfl); exact ⟨_, e, ⟨t, rfl⟩⟩
  v_NAME_LENGTH := by obtain ⟨t, e⟩ := He.int_ok X G (c.d.fact 54 (f := .int "_NAME_LENGTH" 16) rfl); exact ⟨_, e, ⟨t, rfl⟩⟩
  v_RESERVED := ⟨_, He.glo_ok X G (c.d.fact 55 (f := .glo "_RESERVED") rfl), rfl⟩
  v_MAX_NODES := by obtain ⟨t, e⟩ := He.int_ok X G (c.d.fact 56 (f := .int "MAX_NODES" 400) rfl); exact ⟨_, e, ⟨t, rfl⟩⟩
  v_MAX_DEPTH := by obtain ⟨t, e⟩ := He.int_ok X G (c.d.fact 57 (f := .int "MAX_DEPTH" 50) rfl); exact ⟨_, e, ⟨t, rfl⟩⟩
  v_LOGIC_WORDS := ⟨_, He.glo_ok X G (c.d.fact 58 (f := .glo "LOGIC_WORDS") rfl), rfl⟩
  v_HallError := ⟨_, He.glo_ok X G (c.d.fact 59 (f := .glo "HallError") rfl), rfl⟩
  g_HallError := He.glo_ok X G (c.d.fact 59 (f := .glo "HallError") rfl)
  v_InvalidTerm := ⟨_, He.glo_ok X G (c.d.fact 60 (f := .glo "InvalidTerm") rfl), rfl⟩
  g_InvalidTerm := He.glo_ok X G (c.d.fact 60 (f := .glo "InvalidTerm") rfl)
  v_TooLarge := ⟨_, He.glo_ok X G (c.d.fact 61 (f := .glo "TooLarge") rfl), rfl⟩
  g_TooLarge := He.glo_ok X G (c.d.fact 61 (f := .glo "TooLarge") rfl)
  x_InvalidTerm_InvalidTerm := He.exm_ok (c.d.fact 62 (f := .exm "InvalidTerm" "InvalidTerm" true) rfl)
  t_BOOL := fun H => He.tupB_ok (exl_at c.more 0 rfl) H
  t_RESERVED := fun H => He.tupB_ok (exl_at c.more 1 rfl) H
  t_LOGIC_WORDS := fun H => He.tupB_ok (exl_at c.more 2 rfl) H
  h_InvalidTerm := (HallHt.hall_of (prog := PySem.Challenge.pw_lemmahall_k02_well_formed) (d := h_InvalidTerm) X G (c.hall 0 rfl) (exl_at c.more 3 rfl) (by decide +kernel)).1
  e_InvalidTerm := (HallHt.hall_of (prog := PySem.Challenge.pw_lemmahall_k02_well_formed) (d := h_InvalidTerm) X G (c.hall 0 rfl) (exl_at c.more 3 rfl) (by decide +kernel)).2
  n_InvalidTerm := HallHt.noFld_ok (d := h_InvalidTerm) (exl_at c.more 4 rfl)
  k_InvalidTerm_HallError := of_decide_eq_true (exl_at c.more 5 rfl)
  k_InvalidTerm_TooLarge := of_decide_eq_true (exl_at c.more 6 rfl)
  k_InvalidTerm_ValueError := of_decide_eq_true (exl_at c.more 7 rfl)
abbrev Fn_is_name (K : PySem.W.Frag) (fd : FuncData) : Prop := FunD K "is_name" "is_name" (defArgs s_is_name) (defBody s_is_name) (defScope s_is_name) [] [] (He.ga K "is_name") fd
abbrev Fn_kind_parts (K : PySem.W.Frag) (fd : FuncData) : Prop := FunD K "_kind_parts" "_kind_parts" (defArgs s_kind_parts) (defBody s_kind_parts) (defScope s_kind_parts) [] [] (He.ga K "_kind_parts") fd
abbrev Fn_kind_ok (K : PySem.W.Frag) (fd : FuncData) : Prop := FunD K "kind_ok" "kind_ok" (defArgs s_kind_ok) (defBody s_kind_ok) (defScope s_kind_ok) [] [] (He.ga K "kind_ok") fd
abbrev Fn_measure (K : PySem.W.Frag) (fd : FuncData) : Prop := FunD K "measure" "measure" (defArgs s_measure) (defBody s_measure) (defScope s_measure) [] [] (He.ga K "measure") fd
abbrev Fn_form_ok (K : PySem.W.Frag) (fd : FuncData) : Prop := FunD K "_form_ok" "_form_ok" (defArgs s_form_ok) (defBody s_form_ok) (defScope s_form_ok) [] [] (He.ga K "_form_ok") fd
abbrev Fn_made_well (K : PySem.W.Frag) (fd : FuncData) : Prop := FunD K "_made_well" "_made_well" (defArgs s_made_well) (defBody s_made_well) (defScope s_made_well) [] [] (He.ga K "_made_well") fd
abbrev Fn_fitting_kind (K : PySem.W.Frag) (fd : FuncData) : Prop := FunD K "_fitting_kind" "_fitting_kind" (defArgs s_fitting_kind) (defBody s_fitting_kind) (defScope s_fitting_kind) [] [] (He.ga K "_fitting_kind") fd
abbrev Fn_well_formed (K : PySem.W.Frag) (fd : FuncData) : Prop := FunD K "well_formed" "well_formed" (defArgs s_well_formed) (defBody s_well_formed) (defScope s_well_formed) [] [] (He.ga K "well_formed") fd
abbrev Fn_kind_of (K : PySem.W.Frag) (fd : FuncData) : Prop := FunD K "kind_of" "kind_of" (defArgs s_kind_of) (defBody s_kind_of) (defScope s_kind_of) [] [] (He.ga K "kind_of") fd
abbrev Fn_law_pot (K : PySem.W.Frag) (fd : FuncData) : Prop := FunD K "_law_pot" "_law_pot" (defArgs s_law_pot) (defBody s_law_pot) (defScope s_law_pot) [] [] (He.ga K "_law_pot") fd
abbrev Fn_law_take (K : PySem.W.Frag) (fd : FuncData) : Prop := FunD K "_law_take" "_law_take" (defArgs s_law_take) (defBody s_law_take) (defScope s_law_take) [] [] (He.ga K "_law_take") fd
abbrev Fn_law_mended (K : PySem.W.Frag) (fd : FuncData) : Prop := FunD K "_law_mended" "_law_mended" (defArgs s_law_mended) (defBody s_law_mended) (defScope s_law_mended) [] [] (He.ga K "_law_mended") fd
abbrev Fn_law_name (K : PySem.W.Frag) (fd : FuncData) : Prop := FunD K "_law_name" "_law_name" (defArgs s_law_name) (defBody s_law_name) (defScope s_law_name) [] [] (He.ga K "_law_name") fd
abbrev Fn_law_near (K : PySem.W.Frag) (fd : FuncData) : Prop := FunD K "_law_near" "_law_near" (defArgs s_law_near) (defBody s_law_near) (defScope s_law_near) [] [] (He.ga K "_law_near") fd
abbrev Fn_law_words (K : PySem.W.Frag) (fd : FuncData) : Prop := FunD K "_law_words" "_law_words" (defArgs s_law_words) (defBody s_law_words) (defScope s_law_words) [] [] (He.ga K "_law_words") fd
abbrev Fn_law_same (K : PySem.W.Frag) (fd : FuncData) : Prop := FunD K "_law_same" "_law_same" (defArgs s_law_same) (defBody s_law_same) (defScope s_law_same) [] [] (He.ga K "_law_same") fd
abbrev Fn_law_pool (K : PySem.W.Frag) (fd : FuncData) : Prop := FunD K "_law_pool" "_law_pool" (defArgs s_law_pool) (defBody s_law_pool) (defScope s_law_pool) [] [] (He.ga K "_law_pool") fd
abbrev Fn_law_tip (K : PySem.W.Frag) (fd : FuncData) : Prop := FunD K "_law_tip" "_law_tip" (defArgs s_law_tip) (defBody s_law_tip) (defScope s_law_tip) [] [] (He.ga K "_law_tip") fd
abbrev Fn_law_grown (K : PySem.W.Frag) (fd : FuncData) : Prop := FunD K "_law_grown" "_law_grown" (defArgs s_law_grown) (defBody s_law_grown) (defScope s_law_grown) [] [] (He.ga K "_law_grown") fd
abbrev Fn_law_built (K : PySem.W.Frag) (fd : FuncData) : Prop := FunD K "_law_built" "_law_built" (defArgs s_law_built) (defBody s_law_built) (defScope s_law_built) [] [] (He.ga K "_law_built") fd
abbrev Fn_law_depth (K : PySem.W.Frag) (fd : FuncData) : Prop := FunD K "_law_depth" "_law_depth" (defArgs s_law_depth) (defBody s_law_depth) (defScope s_law_depth) [] [] (He.ga K "_law_depth") fd
abbrev Fn_law_arounds (K : PySem.W.Frag) (fd : FuncData) : Prop := FunD K "_law_arounds" "_law_arounds" (defArgs s_law_arounds) (defBody s_law_arounds) (defScope s_law_arounds) [] [] (He.ga K "_law_arounds") fd
abbrev Fn_law_typed (K : PySem.W.Frag) (fd : FuncData) : Prop := FunD K "_law_typed" "_law_typed" (defArgs s_law_typed) (defBody s_law_typed) (defScope s_law_typed) [] [] (He.ga K "_law_typed") fd
abbrev Fn_law_told (K : PySem.W.Frag) (fd : FuncData) : Prop := FunD K "_law_told" "_law_told" (defArgs s_law_told) (defBody s_law_told) (defScope s_law_told) [] [] (He.ga K "_law_told") fd
abbrev Fn_law_ask (K : PySem.W.Frag) (fd : FuncData) : Prop := FunD K "_law_ask" "_law_ask" (defArgs s_law_ask) (defBody s_law_ask) (defScope s_law_ask) [] [] (He.ga K "_law_ask") fd
abbrev Fn_law_long (K : PySem.W.Frag) (fd : FuncData) : Prop := FunD K "_law_long" "_law_long" (defArgs s_law_long) (defBody s_law_long) (defScope s_law_long) [] [] (He.ga K "_law_long") fd
abbrev Fn_law_odd_kind (K : PySem.W.Frag) (fd : FuncData) : Prop := FunD K "_law_odd_kind" "_law_odd_kind" (defArgs s_law_odd_kind) (defBody s_law_odd_kind) (defScope s_law_odd_kind) [] [] (He.ga K "_law_odd_kind") fd
abbrev Fn_law_odd (K : PySem.W.Frag) (fd : FuncData) : Prop := FunD K "_law_odd" "_law_odd" (defArgs s_law_odd) (defBody s_law_odd) (defScope s_law_odd) [] [] (He.ga K "_law_odd") fd
abbrev Fn_law_odd_name (K : PySem.W.Frag) (fd : FuncData) : Prop := FunD K "_law_odd_name" "_law_odd_name" (defArgs s_law_odd_name) (defBody s_law_odd_name) (defScope s_law_odd_name) [] [] (He.ga K "_law_odd_name") fd
abbrev Fn_law_spots (K : PySem.W.Frag) (fd : FuncData) : Prop := FunD K "_law_spots" "_law_spots" (defArgs s_law_spots) (defBody s_law_spots) (defScope s_law_spots) [] [] (He.ga K "_law_spots") fd
abbrev Fn_law_changed (K : PySem.W.Frag) (fd : FuncData) : Prop := FunD K "_law_changed" "_law_changed" (defArgs s_law_changed) (defBody s_law_changed) (defScope s_law_changed) [] [] (He.ga K "_law_changed") fd
abbrev Fn_law_with_kind (K : PySem.W.Frag) (fd : FuncData) : Prop := FunD K "_law_with_kind" "_law_with_kind" (defArgs s_law_with_kind) (defBody s_law_with_kind) (defScope s_law_with_kind) [] [] (He.ga K "_law_with_kind") fd
abbrev Fn_law_ask_general (K : PySem.W.Frag) (fd : FuncData) : Prop := FunD K "_law_ask_general" "_law_ask_general" (defArgs s_law_ask_general) (defBody s_law_ask_general) (defScope s_law_ask_general) [] [] (He.ga K "_law_ask_general") fd
abbrev Fn_law_wide (K : PySem.W.Frag) (fd : FuncData) : Prop := FunD K "_law_wide" "_law_wide" (defArgs s_law_wide) (defBody s_law_wide) (defScope s_law_wide) [] [] (He.ga K "_law_wide") fd
abbrev Fn_law_deep (K : PySem.W.Frag) (fd : FuncData) : Prop := FunD K "_law_deep" "_law_deep" (defArgs s_law_deep) (defBody s_law_deep) (defScope s_law_deep) [] [] (He.ga K "_law_deep") fd
abbrev Fn_law_ask_logical (K : PySem.W.Frag) (fd : FuncData) : Prop := FunD K "_law_ask_logical" "_law_ask_logical" (defArgs s_law_ask_logical) (defBody s_law_ask_logical) (defScope s_law_ask_logical) [] [] (He.ga K "_law_ask_logical") fd
abbrev Fn_law_round (K : PySem.W.Frag) (fd : FuncData) : Prop := FunD K "_law_round" "_law_round" (defArgs s_law_round) (defBody s_law_round) (defScope s_law_round) [] [] (He.ga K "_law_round") fd
abbrev Fn_law (K : PySem.W.Frag) (fd : FuncData) : Prop := FunD K "law" "law" (defArgs s_law) (defBody s_law) (defScope s_law) [] [] (He.ga K "law") fd
theorem sc_is_name : FnScope ["word", "sign"] ["word"] (defScope s_is_name) := ⟨rfl, rfl, rfl, by decide +kernel, rfl, by decide +kernel, by decide +kernel⟩
theorem b_is_name {K : PySem.W.Frag} {fd : FuncData} (F : Fn_is_name K fd) : Binds K fd ["word"] [] := F.bindsN fun _ _ _ _ _ _ us hl => match us, hl with | [_], _ => rfl
theorem sc_kind_parts : FnScope ["kind"] ["kind"] (defScope s_kind_parts) := ⟨rfl, rfl, rfl, by decide +kernel, rfl, by decide +kernel, by decide +kernel⟩
theorem b_kind_parts {K : PySem.W.Frag} {fd : FuncData} (F : Fn_kind_parts K fd) : Binds K fd ["kind"] [] := F.bindsN fun _ _ _ _ _ _ us hl => match us, hl with | [_], _ => rfl
theorem sc_kind_ok : FnScope ["kind", "size", "waiting", "parts"] ["kind"] (defScope s_kind_ok) := ⟨rfl, rfl, rfl, by decide +kernel, rfl, by decide +kernel, by decide +kernel⟩
theorem b_kind_ok {K : PySem.W.Frag} {fd : FuncData} (F : Fn_kind_ok K fd) : Binds K fd ["kind"] [] := F.bindsN fun _ _ _ _ _ _ us hl => match us, hl with | [_], _ => rfl
theorem sc_measure : FnScope ["term", "many", "deepest", "waiting", "part", "depth"] ["term"] (defScope s_measure) := ⟨rfl, rfl, rfl, by decide +kernel, rfl, by decide +kernel, by decide +kernel⟩
theorem b_measure {K : PySem.W.Frag} {fd : FuncData} (F : Fn_measure K fd) : Binds K fd ["term"] [] := F.bindsN fun _ _ _ _ _ _ us hl => match us, hl with | [_], _ => rfl
theorem sc_form_ok : FnScope ["part", "level", "word", "index", "whole"] ["part", "level"] (defScope s_form_ok) := ⟨rfl, rfl, rfl, by decide +kernel, rfl, by decide +kernel, by decide +kernel⟩
theorem b_form_ok {K : PySem.W.Frag} {fd : FuncData} (F : Fn_form_ok K fd) : Binds K fd ["part", "level"] [] := F.bindsN fun _ _ _ _ _ _ us hl => match us, hl with | [_, _], _ => rfl
theorem sc_made_well : FnScope ["value", "many", "waiting", "part", "depth", "level"] ["value"] (defScope s_made_well) := ⟨rfl, rfl, rfl, by decide +kernel, rfl, by decide +kernel, by decide +kernel⟩
theorem b_made_well {K : PySem.W.Frag} {fd : FuncData} (F : Fn_made_well K fd) : Binds K fd ["value"] [] := F.bindsN fun _ _ _ _ _ _ us hl => match us, hl with | [_], _ => rfl
theorem sc_fitting_kind : FnScope ["part", "around", "taker", "argument", "inner"] ["part", "around"] (defScope s_fitting_kind) := ⟨rfl, rfl, rfl, by decide +kernel, rfl, by decide +kernel, by decide +kernel⟩
theorem b_fitting_kind {K : PySem.W.Frag} {fd : FuncData} (F : Fn_fitting_kind K fd) : Binds K fd ["part", "around"] [] := F.bindsN fun _ _ _ _ _ _ us hl => match us, hl with | [_, _], _ => rfl
theorem sc_well_formed : FnScope ["value"] ["value"] (defScope s_well_formed) := ⟨rfl, rfl, rfl, by decide +kernel, rfl, by decide +kernel, by decide +kernel⟩
theorem b_well_formed {K : PySem.W.Frag} {fd : FuncData} (F : Fn_well_formed K fd) : Binds K fd ["value"] [] := F.bindsN fun _ _ _ _ _ _ us hl => match us, hl with | [_], _ => rfl
theorem sc_kind_of : FnScope ["term", "kind"] ["term"] (defScope s_kind_of) := ⟨rfl, rfl, rfl, by decide +kernel, rfl, by decide +kernel, by decide +kernel⟩
theorem b_kind_of {K : PySem.W.Frag} {fd : FuncData} (F : Fn_kind_of K fd) : Binds K fd ["term"] [] := F.bindsN fun _ _ _ _ _ _ us hl => match us, hl with | [_], _ => rfl
theorem sc_law_pot : FnScope ["script", "k", "cell", "rest"] ["script", "k"] (defScope s_law_pot) := ⟨rfl, rfl, rfl, by decide +kernel, rfl, by decide +kernel, by decide +kernel⟩
theorem b_law_pot {K : PySem.W.Frag} {fd : FuncData} (F : Fn_law_pot K fd) : Binds K fd ["script", "k"] [] := F.bindsN fun _ _ _ _ _ _ us hl => match us, hl with | [_, _], _ => rfl
theorem sc_law_take : FnScope ["pot", "many", "digit", "mixed"] ["pot", "many"] (defScope s_law_take) := ⟨rfl, rfl, rfl, by decide +kernel, rfl, by decide +kernel, by decide +kernel⟩
theorem b_law_take {K : PySem.W.Frag} {fd : FuncData} (F : Fn_law_take K fd) : Binds K fd ["pot", "many"] [] := F.bindsN fun _ _ _ _ _ _ us hl => match us, hl with | [_, _], _ => rfl
theorem sc_law_mended : FnScope ["word"] ["word"] (defScope s_law_mended) := ⟨rfl, rfl, rfl, by decide +kernel, rfl, by decide +kernel, by decide +kernel⟩
theorem b_law_mended {K : PySem.W.Frag} {fd : FuncData} (F : Fn_law_mended K fd) : Binds K fd ["word"] [] := F.bindsN fun _ _ _ _ _ _ us hl => match us, hl with | [_], _ => rfl
theorem sc_law_name : FnScope ["pot", "letters", "size", "word", "k"] ["pot"] (defScope s_law_name) := ⟨rfl, rfl, rfl, by decide +kernel, rfl, by decide +kernel, by decide +kernel⟩
theorem b_law_name {K : PySem.W.Frag} {fd : FuncData} (F : Fn_law_name K fd) : Binds K fd ["pot"] [] := F.bindsN fun _ _ _ _ _ _ us hl => match us, hl with | [_], _ => rfl
theorem sc_law_near : FnScope ["pot", "word", "place", "letter"] ["pot", "word"] (defScope s_law_near) := ⟨rfl, rfl, rfl, by decide +kernel, rfl, by decide +kernel, by decide +kernel⟩
theorem b_law_near {K : PySem.W.Frag} {fd : FuncData} (F : Fn_law_near K fd) : Binds K fd ["pot", "word"] [] := F.bindsN fun _ _ _ _ _ _ us hl => match us, hl with | [_, _], _ => rfl
theorem sc_law_words : FnScope ["pot", "first", "second", "third", "fourth"] ["pot"] (defScope s_law_words) := ⟨rfl, rfl, rfl, by decide +kernel, rfl, by decide +kernel, by decide +kernel⟩
theorem b_law_words {K : PySem.W.Frag} {fd : FuncData} (F : Fn_law_words K fd) : Binds K fd ["pot"] [] := F.bindsN fun _ _ _ _ _ _ us hl => match us, hl with | [_], _ => rfl
theorem sc_law_same : FnScope ["actual", "due"] ["actual", "due"] (defScope s_law_same) := ⟨rfl, rfl, rfl, by decide +kernel, rfl, by decide +kernel, by decide +kernel⟩
theorem b_law_same {K : PySem.W.Frag} {fd : FuncData} (F : Fn_law_same K fd) : Binds K fd ["actual", "due"] [] := F.bindsN fun _ _ _ _ _ _ us hl => match us, hl with | [_, _], _ => rfl
theorem sc_law_pool : FnScope ["pot", "words", "leaves", "pool", "k", "one", "other", "way"] ["pot", "words"] (defScope s_law_pool) := ⟨rfl, rfl, rfl, by decide +kernel, rfl, by decide +kernel, by decide +kernel⟩
theorem b_law_pool {K : PySem.W.Frag} {fd : FuncData} (F : Fn_law_pool K fd) : Binds K fd ["pot", "words"] [] := F.bindsN fun _ _ _ _ _ _ us hl => match us, hl with | [_, _], _ => rfl
theorem sc_law_tip : FnScope ["pot", "kind", "around", "words", "fits", "way", "k"] ["pot", "kind", "around", "words"] (defScope s_law_tip) := ⟨rfl, rfl, rfl, by decide +kernel, rfl, by decide +kernel, by decide +kernel⟩
theorem b_law_tip {K : PySem.W.Frag} {fd : FuncData} (F : Fn_law_tip K fd) : Binds K fd ["pot", "kind", "around", "words"] [] := F.bindsN fun _ _ _ _ _ _ us hl => match us, hl with | [_, _, _, _], _ => rfl
theorem sc_law_grown : FnScope ["pot", "kind", "words", "pool", "most", "code", "spent", "todo", "turn", "around", "way", "other"] ["pot", "kind", "words", "pool", "most"] (defScope s_law_grown) := ⟨rfl, rfl, rfl, by decide +kernel, rfl, by decide +kernel, by decide +kernel⟩
theorem b_law_grown {K : PySem.W.Frag} {fd : FuncData} (F : Fn_law_grown K fd) : Binds K fd ["pot", "kind", "words", "pool", "most"] [] := F.bindsN fun _ _ _ _ _ _ us hl => match us, hl with | [_, _, _, _, _], _ => rfl
theorem sc_law_built : FnScope ["code", "stack", "row", "function", "argument", "inner"] ["code"] (defScope s_law_built) := ⟨rfl, rfl, rfl, by decide +kernel, rfl, by decide +kernel, by decide +kernel⟩
theorem b_law_built {K : PySem.W.Frag} {fd : FuncData} (F : Fn_law_built K fd) : Binds K fd ["code"] [] := F.bindsN fun _ _ _ _ _ _ us hl => match us, hl with | [_], _ => rfl
theorem sc_law_depth : FnScope ["code", "todo", "most", "row", "depth"] ["code"] (defScope s_law_depth) := ⟨rfl, rfl, rfl, by decide +kernel, rfl, by decide +kernel, by decide +kernel⟩
theorem b_law_depth {K : PySem.W.Frag} {fd : FuncData} (F : Fn_law_depth K fd) : Binds K fd ["code"] [] := F.bindsN fun _ _ _ _ _ _ us hl => match us, hl with | [_], _ => rfl
theorem sc_law_arounds : FnScope ["code", "todo", "arounds", "row", "around"] ["code"] (defScope s_law_arounds) := ⟨rfl, rfl, rfl, by decide +kernel, rfl, by decide +kernel, by decide +kernel⟩
theorem b_law_arounds {K : PySem.W.Frag} {fd : FuncData} (F : Fn_law_arounds K fd) : Binds K fd ["code"] [] := F.bindsN fun _ _ _ _ _ _ us hl => match us, hl with | [_], _ => rfl
theorem sc_law_typed : FnScope ["code", "arounds", "stack", "k", "row", "kind", "function", "argument"] ["code"] (defScope s_law_typed) := ⟨rfl, rfl, rfl, by decide +kernel, rfl, by decide +kernel, by decide +kernel⟩
theorem b_law_typed {K : PySem.W.Frag} {fd : FuncData} (F : Fn_law_typed K fd) : Binds K fd ["code"] [] := F.bindsN fun _ _ _ _ _ _ us hl => match us, hl with | [_], _ => rfl
theorem sc_law_told : FnScope ["term", "kind", "e"] ["term"] (defScope s_law_told) := ⟨rfl, rfl, rfl, by decide +kernel, rfl, by decide +kernel, by decide +kernel⟩
theorem b_law_told {K : PySem.W.Frag} {fd : FuncData} (F : Fn_law_told K fd) : Binds K fd ["term"] [] := F.bindsN fun _ _ _ _ _ _ us hl => match us, hl with | [_], _ => rfl
theorem sc_law_ask : FnScope ["code", "good", "term", "due", "depth", "told"] ["code", "good"] (defScope s_law_ask) := ⟨rfl, rfl, rfl, by decide +kernel, rfl, by decide +kernel, by decide +kernel⟩
theorem b_law_ask {K : PySem.W.Frag} {fd : FuncData} (F : Fn_law_ask K fd) : Binds K fd ["code", "good"] [] := F.bindsN fun _ _ _ _ _ _ us hl => match us, hl with | [_, _], _ => rfl
theorem sc_law_long : FnScope ["pot", "words", "count", "tip", "way", "kind", "k"] ["pot", "words", "count"] (defScope s_law_long) := ⟨rfl, rfl, rfl, by decide +kernel, rfl, by decide +kernel, by decide +kernel⟩
theorem b_law_long {K : PySem.W.Frag} {fd : FuncData} (F : Fn_law_long K fd) : Binds K fd ["pot", "words", "count"] [] := F.bindsN fun _ _ _ _ _ _ us hl => match us, hl with | [_, _, _], _ => rfl
theorem sc_law_odd_kind : FnScope ["pot", "words", "word", "small", "bad", "spoilt", "menu"] ["pot", "words"] (defScope s_law_odd_kind) := ⟨rfl, rfl, rfl, by decide +kernel, rfl, by decide +kernel, by decide +kernel⟩
theorem b_law_odd_kind {K : PySem.W.Frag} {fd : FuncData} (F : Fn_law_odd_kind K fd) : Binds K fd ["pot", "words"] [] := F.bindsN fun _ _ _ _ _ _ us hl => match us, hl with | [_, _], _ => rfl
theorem sc_law_odd : FnScope ["pot", "words", "word", "small", "tip", "menu"] ["pot", "words"] (defScope s_law_odd) := ⟨rfl, rfl, rfl, by decide +kernel, rfl, by decide +kernel, by decide +kernel⟩
theorem b_law_odd {K : PySem.W.Frag} {fd : FuncData} (F : Fn_law_odd K fd) : Binds K fd ["pot", "words"] [] := F.bindsN fun _ _ _ _ _ _ us hl => match us, hl with | [_, _], _ => rfl
theorem sc_law_odd_name : FnScope ["pot", "word", "bad"] ["pot", "word"] (defScope s_law_odd_name) := ⟨rfl, rfl, rfl, by decide +kernel, rfl, by decide +kernel, by decide +kernel⟩
theorem b_law_odd_name {K : PySem.W.Frag} {fd : FuncData} (F : Fn_law_odd_name K fd) : Binds K fd ["pot", "word"] [] := F.bindsN fun _ _ _ _ _ _ us hl => match us, hl with | [_, _], _ => rfl
theorem sc_law_spots : FnScope ["code", "words", "k"] ["code", "words"] (defScope s_law_spots) := ⟨rfl, rfl, rfl, by decide +kernel, rfl, by decide +kernel, by decide +kernel⟩
theorem b_law_spots {K : PySem.W.Frag} {fd : FuncData} (F : Fn_law_spots K fd) : Binds K fd ["code", "words"] [] := F.bindsN fun _ _ _ _ _ _ us hl => match us, hl with | [_, _], _ => rfl
theorem sc_law_changed : FnScope ["code", "place", "row"] ["code", "place", "row"] (defScope s_law_changed) := ⟨rfl, rfl, rfl, by decide +kernel, rfl, by decide +kernel, by decide +kernel⟩
theorem b_law_changed {K : PySem.W.Frag} {fd : FuncData} (F : Fn_law_changed K fd) : Binds K fd ["code", "place", "row"] [] := F.bindsN fun _ _ _ _ _ _ us hl => match us, hl with | [_, _, _], _ => rfl
theorem sc_law_with_kind : FnScope ["row", "kind"] ["row", "kind"] (defScope s_law_with_kind) := ⟨rfl, rfl, rfl, by decide +kernel, rfl, by decide +kernel, by decide +kernel⟩
theorem b_law_with_kind {K : PySem.W.Frag} {fd : FuncData} (F : Fn_law_with_kind K fd) : Binds K fd ["row", "kind"] [] := F.bindsN fun _ _ _ _ _ _ us hl => match us, hl with | [_, _], _ => rfl
theorem sc_law_ask_general : FnScope ["pot", "words", "pool", "way", "most", "code", "written", "place", "tips", "tip", "kind", "row", "word", "count"] ["pot", "words", "pool", "way"] (defScope s_law_ask_general) := ⟨rfl, rfl, rfl, by decide +kernel, rfl, by decide +kernel, by decide +kernel⟩
theorem b_law_ask_general {K : PySem.W.Frag} {fd : FuncData} (F : Fn_law_ask_general K fd) : Binds K fd ["pot", "words", "pool", "way"] [] := F.bindsN fun _ _ _ _ _ _ us hl => match us, hl with | [_, _, _, _], _ => rfl
theorem sc_law_wide : FnScope ["pot", "words", "count", "base", "many", "rest", "k", "line", "pair", "turn", "joined", "code"] ["pot", "words", "count"] (defScope s_law_wide) := ⟨rfl, rfl, rfl, by decide +kernel, rfl, by decide +kernel, by decide +kernel⟩
theorem b_law_wide {K : PySem.W.Frag} {fd : FuncData} (F : Fn_law_wide K fd) : Binds K fd ["pot", "words", "count"] [] := F.bindsN fun _ _ _ _ _ _ us hl => match us, hl with | [_, _, _], _ => rfl
theorem sc_law_deep : FnScope ["pot", "words", "base", "total", "lams", "redexes", "hops", "row", "code"] ["pot", "words"] (defScope s_law_deep) := ⟨rfl, rfl, rfl, by decide +kernel, rfl, by decide +kernel, by decide +kernel⟩
theorem b_law_deep {K : PySem.W.Frag} {fd : FuncData} (F : Fn_law_deep K fd) : Binds K fd ["pot", "words"] [] := F.bindsN fun _ _ _ _ _ _ us hl => match us, hl with | [_, _], _ => rfl
theorem sc_law_ask_logical : FnScope ["pot", "words", "pool", "kind", "truth", "one", "two", "known", "word", "code", "turn", "other"] ["pot", "words", "pool"] (defScope s_law_ask_logical) := ⟨rfl, rfl, rfl, by decide +kernel, rfl, by decide +kernel, by decide +kernel⟩
theorem b_law_ask_logical {K : PySem.W.Frag} {fd : FuncData} (F : Fn_law_ask_logical K fd) : Binds K fd ["pot", "words", "pool"] [] := F.bindsN fun _ _ _ _ _ _ us hl => match us, hl with | [_, _, _], _ => rfl
theorem sc_law_round : FnScope ["pot", "words", "pool", "way"] ["pot", "words", "pool"] (defScope s_law_round) := ⟨rfl, rfl, rfl, by decide +kernel, rfl, by decide +kernel, by decide +kernel⟩
theorem b_law_round {K : PySem.W.Frag} {fd : FuncData} (F : Fn_law_round K fd) : Binds K fd ["pot", "words", "pool"] [] := F.bindsN fun _ _ _ _ _ _ us hl => match us, hl with | [_, _, _], _ => rfl
theorem sc_law : FnScope ["script", "k", "pot", "words", "pool"] ["script"] (defScope s_law) := ⟨rfl, rfl, rfl, by decide +kernel, rfl, by decide +kernel, by decide +kernel⟩
theorem b_law {K : PySem.W.Frag} {fd : FuncData} (F : Fn_law K fd) : Binds K fd ["script"] [] := F.bindsN fun _ _ _ _ _ _ us hl => match us, hl with | [_], _ => rfl
end K02
/-! Data of tuples, texts and ints in the heap; lists of them; steps over these. -/
namespace L2
open PySem PySem.Spec PyProof.Rows SX TL
mutual
/-- v stands for d: tuples are the program's own, they never change -/
inductive TD (H : Hp) : V → PyData → Prop
  | non : TD H .non .none
  | bl (b : Bool) : TD H (.bl b) (.bool b)
  | int (i : Int) : TD H (.int i) (.int i)
  | str (x : Str) : TD H (.str x) (.str x)
  | tup {a : Addr} {xs : List V} {ds : List PyData} : H a = some (.tup xs) → TDs H xs ds → TD H (.ref a) (.tuple ds)
inductive TDs (H : Hp) : List V → List PyData → Prop
  | nil : TDs H [] []
  | cons {v : V} {vs : List V} {d : PyData} {ds : List PyData} : TD H v d → TDs H vs ds → TDs H (v :: vs) (d :: ds)
end
mutual
theorem TD.dp {K : PySem.W.Frag} {H : Hp} : ∀ {v : V} {d : PyData}, TD H v d → Dp K H v d
  | _, _, .non => .non
  | _, _, .bl b => .bl b
  | _, _, .int i => .int i
  | _, _, .str x => .str x
  | _, _, .tup h k => .tup (SqT.of h) k.dp
theorem TDs.dp {K : PySem.W.Frag} {H : Hp} : ∀ {v : List V} {d : List PyData}, TDs H v d → DpAll K H v d
  | _, _, .nil => .nil
  | _, _, .cons h k => .cons h.dp k.dp
end
/-- tuples stand -/
def Tm (H H' : Hp) : Prop := ∀ b xs, H b = some (.tup xs) → H' b = some (.tup xs)
mutual
theorem TD.tm {H H' : Hp} (t : Tm H H') : ∀ {v : V} {d : PyData}, TD H v d → TD H' v d
  | _, _, .non => .non
  | _, _, .bl b => .bl b
  | _, _, .int i => .int i
  | _, _, .str x => .str x
  | _, _, .tup h k => .tup (t _ _ h) (k.tm t)
theorem TDs.tm {H H' : Hp} (t : Tm H H') : ∀ {v : List V} {d : List PyData}, TDs H v d → TDs H' v d
  | _, _, .nil => .nil
  | _, _, .cons h k => .cons (h.tm t) (k.tm t)
end
theorem Tm.refl (H : Hp) : Tm H H := fun _ _ h => h
theorem Tm.tr {H H1 H2 : Hp} (h : Tm H H1) (k : Tm H1 H2) : Tm H H2 := fun b xs e => k b xs (h b xs e)
theorem Tm.same {H H' : Hp} (s : Same H H') : Tm H H' := fun b xs e => s b _ e
theorem Tm.ex {H H' : Hp} {p : Addr} {xs : List V} (hp : H p = some (.lst xs)) (x : Ex p H H') : Tm H H' := fun b ys e => by
  rw [x b (ne_of e hp (by intro z; cases z))]; exact e
/-- all but a stands -/
def Kb (a : Addr) (H H' : Hp) : Prop := ∀ b o, b ≠ a → H b = some o → H' b = some o
theorem Kb.refl (a : Addr) (H : Hp) : Kb a H H := fun _ _ _ h => h
theorem Kb.tr {a : Addr} {H H1 H2 : Hp} (h : Kb a H H1) (k : Kb a H1 H2) : Kb a H H2 := fun b o n e => k b o n (h b o n e)
theorem Kb.same {a : Addr} {H H' : Hp} (s : Same H H') : Kb a H H' := fun b o _ e => s b o e
theorem Kb.then {a : Addr} {H H1 H2 : Hp} (h : Kb a H H1) (s : Same H1 H2) : Kb a H H2 := h.tr (Kb.same s)
theorem Kb.ex {a p : Addr} {H H1 H2 : Hp} (k : Kb a H H1) (hp : H p = none) (x : Ex p H1 H2) : Kb a H H2 := fun b o n e => by
  rw [x b (ne_of_none e hp)]; exact k b o n e
theorem Kb.tm {a : Addr} {H H' : Hp} {xs : List V} (ha : H a = some (.lst xs)) (k : Kb a H H') : Tm H H' := fun b ys e => k b _ (ne_of e ha (by intro z; cases z)) e
theorem Same.ex {p : Addr} {H H1 H2 : Hp} (k : Same H H1) (hp : H p = none) (x : Ex p H1 H2) : Same H H2 := fun b o e => by
  rw [x b (ne_of_none e hp)]; exact k b o e
theorem Same.kb {a : Addr} {H H1 H2 : Hp} (s : Same H H1) (ha : H a = none) (k : Kb a H1 H2) : Same H H2 := fun b o e => k b o (ne_of_none e ha) (s b o e)
theorem Ex.refl (p : Addr) (H : Hp) : Ex p H H := fun _ _ => rfl
/-! inversion -/
section
variable {H : Hp} {v x y z : V} {d e f : PyData} {ds es : List PyData} {xs ys : List V}
theorem TD.tuple (h : TD H v (.tuple ds)) : ∃ a xs, v = .ref a ∧ H a = some (.tup xs) ∧ TDs H xs ds := by
  cases h with
  | tup h k => exact ⟨_, _, rfl, h, k⟩
theorem TD.txt {s : Str} (h : TD H v (.str s)) : v = .str s := by cases h; rfl
theorem TD.num {i : Int} (h : TD H v (.int i)) : v = .int i := by cases h; rfl
theorem TD.none_ (h : TD H v .none) : v = .non := by cases h; rfl
theorem TDs.len (h : TDs H xs ds) : xs.length = ds.length := by
  induction ds generalizing xs with
  | nil => cases h; rfl
  | cons d ds ih => cases h with | cons a b => rw [List.length_cons, List.length_cons, ih b]
theorem TDs.nil_ (h : TDs H xs []) : xs = [] := by cases h; rfl
theorem TDs.cons_ (h : TDs H xs (d :: ds)) : ∃ x ys, xs = x :: ys ∧ TD H x d ∧ TDs H ys ds := by cases h with | cons a b => exact ⟨_, _, rfl, a, b⟩
theorem TDs.one (h : TDs H xs [d]) : ∃ x, xs = [x] ∧ TD H x d := by
  obtain ⟨x, ys, rfl, a, b⟩ := h.cons_; cases b; exact ⟨x, rfl, a⟩
theorem TDs.two (h : TDs H xs [d, e]) : ∃ x y, xs = [x, y] ∧ TD H x d ∧ TD H y e := by
  obtain ⟨x, ys, rfl, a, b⟩ := h.cons_; obtain ⟨y, rfl, c⟩ := b.one; exact ⟨x, y, rfl, a, c⟩
theorem TDs.three (h : TDs H xs [d, e, f]) : ∃ x y z, xs = [x, y, z] ∧ TD H x d ∧ TD H y e ∧ TD H z f := by
  obtain ⟨x, ys, rfl, a, b⟩ := h.cons_; obtain ⟨y, z, rfl, b', c⟩ := b.two; exact ⟨x, y, z, rfl, a, b', c⟩
theorem TDs.get {i : Nat} (h : TDs H xs ds) (e : ds[i]? = some d) : ∃ x, xs[i]? = some x ∧ TD H x d := by
  induction ds generalizing xs i with
  | nil => cases e
  | cons d' ds ih =>
    obtain ⟨x, ys, rfl, a, b⟩ := h.cons_
    cases i with
    | zero => cases e; exact ⟨x, rfl, a⟩
    | succ i => exact ih (xs := ys) b e
theorem TDs.get' {i : Nat} (h : TDs H xs ds) (e : xs[i]? = some x) : ∃ d, ds[i]? = some d ∧ TD H x d := by
  have hi := (List.getElem?_eq_some_iff.mp e).1
  rw [h.len] at hi
  obtain ⟨y, e', t⟩ := h.get (List.getElem?_eq_getElem hi)
  rw [e] at e'; cases e'
  exact ⟨_, List.getElem?_eq_getElem hi, t⟩
theorem TDs.append (h : TDs H xs ds) (k : TDs H ys es) : TDs H (xs ++ ys) (ds ++ es) := by
  induction ds generalizing xs with
  | nil => cases h; exact k
  | cons d ds ih => cases h with | cons a b => exact .cons a (ih b)
theorem TDs.take (h : TDs H xs ds) (n : Nat) : TDs H (xs.take n) (ds.take n) := by
  induction n generalizing xs ds with
  | zero => exact .nil
  | succ n ih =>
    cases ds with
    | nil => cases h; exact .nil
    | cons d ds => cases h with | cons a b => exact .cons a (ih b)
theorem TDs.drop (h : TDs H xs ds) (n : Nat) : TDs H (xs.drop n) (ds.drop n) := by
  induction n generalizing xs ds with
  | zero => exact h
  | succ n ih =>
    cases ds with
    | nil => cases h; exact .nil
    | cons d ds => cases h with | cons a b => exact ih b
theorem TDs.snoc (h : TDs H xs ds) (k : TD H v d) : TDs H (xs ++ [v]) (ds ++ [d]) := h.append (.cons k .nil)
theorem TDs.rev (h : TDs H xs ds) : TDs H xs.reverse ds.reverse := by
  induction ds generalizing xs with
  | nil => cases h; exact .nil
  | cons d ds ih => cases h with | cons a b => rw [List.reverse_cons, List.reverse_cons]; exact (ih b).snoc a
theorem TDs.unsnoc (h : TDs H xs (ds ++ [d])) : ∃ ys x, xs = ys ++ [x] ∧ TDs H ys ds ∧ TD H x d := by
  induction ds generalizing xs with
  | nil => obtain ⟨x, rfl, t⟩ := TDs.one h; exact ⟨[], x, rfl, .nil, t⟩
  | cons d' ds ih =>
    obtain ⟨x, ys, rfl, a, b⟩ := TDs.cons_ h
    obtain ⟨zs, y, rfl, c, t⟩ := ih b
    exact ⟨x :: zs, y, rfl, .cons a c, t⟩
theorem TDs.rep (n : Nat) (h : TDs H xs ds) : TDs H (List.replicate n xs).flatten (List.replicate n ds).flatten := by
  induction n with
  | zero => exact .nil
  | succ n ih => rw [List.replicate_succ, List.replicate_succ, List.flatten_cons, List.flatten_cons]; exact h.append ih
theorem TDs.of {α : Type} {g : α → PyData} {l : List α} (h : ∀ (i : Nat) (d : PyData), (l.map g)[i]? = some d → ∃ x : V, xs[i]? = some x ∧ TD H x d) (hl : xs.length = l.length) : TDs H xs (l.map g) := by
  induction l generalizing xs with
  | nil =>
    have : xs = [] := List.length_eq_zero_iff.mp hl
    subst this; exact .nil
  | cons a l ih =>
    cases xs with
    | nil => cases hl
    | cons x xs =>
      obtain ⟨y, e, t⟩ := h 0 _ rfl
      cases e
      exact .cons t (ih (fun i d e => h (i + 1) d e) (by simpa using hl))
end
/-- a list of data at p -/
def DL (H : Hp) (p : Addr) (ds : List PyData) : Prop := ∃ xs, H p = some (.lst xs) ∧ TDs H xs ds
section
variable {H H' : Hp} {p : Addr} {ds es : List PyData}
theorem DL.lst (h : DL H p ds) : ∃ xs, H p = some (.lst xs) := let ⟨xs, e, _⟩ := h; ⟨xs, e⟩
theorem DL.same (h : DL H p ds) (s : Same H H') : DL H' p ds := let ⟨xs, e, t⟩ := h; ⟨xs, s _ _ e, t.tm (Tm.same s)⟩
theorem DL.kb {a : Addr} {xs : List V} (h : DL H p ds) (k : Kb a H H') (n : p ≠ a) (ha : H a = some (.lst xs)) : DL H' p ds := let ⟨xs, e, t⟩ := h; ⟨xs, k _ _ n e, t.tm (k.tm ha)⟩
theorem DL.ex {q : Addr} (h : DL H p ds) (x : Ex q H H') (n : p ≠ q) {xs : List V} (hq : H q = some (.lst xs)) : DL H' p ds := let ⟨xs, e, t⟩ := h; ⟨xs, by rw [x p n]; exact e, t.tm (Tm.ex hq x)⟩
theorem DL.tm_ex (h : DL H p ds) (x : Ex p H H') : Tm H H' := let ⟨_, e⟩ := h.lst; Tm.ex e x
end
section
variable {σ : St} {H : Hp} {v x y : V} {Q : VK} {K : PySem.W.Frag} {tA : TA} {te : TE} {p q : Addr} {d e : PyData} {ds es : List PyData} {xs ys : List V}
/-! steps -/
theorem t_ix {n : Nat} (h : TD H v (.tuple ds)) (e : ds[n]? = some d) (k : ∀ x, TD H x d → Q x H) : rIxT K v (.int (n : Int)) H Q := by
  obtain ⟨a, xs, rfl, ha, t⟩ := h.tuple
  obtain ⟨x, ex, tx⟩ := t.get e
  exact w_ixU (SqT.of ha) ex (k x tx)
theorem t_ixS {n : Nat} {s : Str} (h : TD H v (.tuple ds)) (e : ds[n]? = some (.str s)) (k : Q (.str s) H) : rIxT K v (.int (n : Int)) H Q := t_ix h e fun x tx => by rw [tx.txt]; exact k
theorem t_ixI {n : Nat} {i : Int} (h : TD H v (.tuple ds)) (e : ds[n]? = some (.int i)) (k : Q (.int i) H) : rIxT K v (.int (n : Int)) H Q := t_ix h e fun x tx => by rw [tx.num]; exact k
theorem l_ix {n : Nat} (h : DL H p ds) (e : ds[n]? = some d) (k : ∀ x, TD H x d → Q x H) : rIxL K (.ref p) (.int (n : Int)) H Q := by
  obtain ⟨xs, hp, t⟩ := h
  obtain ⟨x, ex, tx⟩ := t.get e
  exact w_ixL (SqL.of hp) ex (k x tx)
theorem l_len (h : DL H p ds) (k : Q (.int (ds.length : Int)) H) : rLenQ K [.ref p] H Q := by
  obtain ⟨xs, hp, t⟩ := h
  refine w_lenL (SqL.of hp) ?_
  rw [t.len]; exact k
theorem t_len (h : TD H v (.tuple ds)) (k : Q (.int (ds.length : Int)) H) : rLenQ K [v] H Q := by
  obtain ⟨a, xs, rfl, ha, t⟩ := h.tuple
  refine w_lenU (SqT.of ha) ?_
  rw [t.len]; exact k
theorem l_ty {F : Prop} (h : DL H p ds) (k : F) : tyV K "list" (.ref p) H ∧ F := let ⟨_, e, _⟩ := h; n_lTy e k
theorem l_app (h : DL H p ds) (hv : TD H v d) (k : ∀ H', DL H' p (ds ++ [d]) → Ex p H H' → Q .non H') (hz : ds.length ≤ 100000 := by omega) : rAppend (.ref p) [v] H Q := by
  obtain ⟨xs, hp, t⟩ := h
  refine n_app hp (by rw [t.len]; exact hz) (fun H' e x => ?_)
  have tm := Tm.ex hp x
  exact k H' ⟨_, e, (t.tm tm).snoc (hv.tm tm)⟩ x
theorem l_pop (h : DL H p (ds ++ [d])) (k : ∀ x H', TD H' x d → DL H' p ds → Ex p H H' → Q x H') : rPop (.ref p) [] H Q := by
  obtain ⟨xs, hp, t⟩ := h
  obtain ⟨ys, x, rfl, t1, t2⟩ := t.unsnoc
  have ex : Ex p H (upd H p (.lst ys)) := fun b hb => upd_ne hb
  have tm := Tm.ex hp ex
  refine ⟨p, _, x, rfl, rfl, hp, ?_, ?_⟩
  · rw [List.length_append, List.length_singleton, Nat.add_sub_cancel]
    exact List.getElem?_concat_length
  · rw [List.dropLast_concat]
    exact k x _ (t2.tm tm) ⟨ys, upd_same, t1.tm tm⟩ ex
theorem t_new (t : TDs H xs ds) (k : ∀ p H', H p = none → Same H H' → TD H' (.ref p) (.tuple ds) → Q (.ref p) H') (hz : xs.length ≤ 4096 := by exact Nat.le_of_ble_eq_true rfl) : NewT xs H Q :=
  n_T (fun p H' hp s e => k p H' hp s (.tup e (t.tm (Tm.same s)))) hz
theorem l_new (t : TDs H xs ds) (k : ∀ p H', H p = none → Same H H' → DL H' p ds → Q (.ref p) H') (hz : xs.length ≤ 4096 := by exact Nat.le_of_ble_eq_true rfl) : NewL xs H Q :=
  n_L (fun p H' hp s e => k p H' hp s ⟨xs, e, t.tm (Tm.same s)⟩) hz
theorem l_cat (h1 : DL H p ds) (h2 : DL H q es) (k : ∀ t H', H t = none → Same H H' → DL H' t (ds ++ es) → Q (.ref t) H') (hz : ds.length + es.length ≤ 100000 := by omega) : rCat (.ref p) (.ref q) H Q := by
  obtain ⟨xs, hp, t1⟩ := h1
  obtain ⟨ys, hq, t2⟩ := h2
  exact n_cat hp hq (by rw [t1.len, t2.len]; exact hz) fun t H' ht s e => k t H' ht s ⟨_, e, (t1.append t2).tm (Tm.same s)⟩
theorem l_rep {n : Nat} (h : DL H p ds) (k : ∀ t H', H t = none → Same H H' → DL H' t (List.replicate n ds).flatten → Q (.ref t) H') (hz : ds.length * n ≤ 100000) (hn : n ≤ 100000 := by omega) : rRep (.ref p) (.int (n : Int)) H Q := by
  obtain ⟨xs, hp, t1⟩ := h
  exact n_rep hp (by rw [t1.len]; exact hz) hn fun t H' ht s e => k t H' ht s ⟨_, e, (t1.rep n).tm (Tm.same s)⟩
theorem l_to {b : Nat} (h : DL H p ds) (k : ∀ t H', H t = none → Same H H' → DL H' t (ds.take b) → Q (.ref t) H') : rSlL K (.ref p) none (some (b : Int)) H Q := by
  obtain ⟨xs, hp, t1⟩ := h
  exact n_to (SqL.of hp) fun t H' ht s e => k t H' ht s ⟨_, e, (t1.take b).tm (Tm.same s)⟩
theorem l_from {b : Nat} (h : DL H p ds) (k : ∀ t H', H t = none → Same H H' → DL H' t (ds.drop b) → Q (.ref t) H') : rSlL K (.ref p) (some (b : Int)) none H Q := by
  obtain ⟨xs, hp, t1⟩ := h
  exact n_from (SqL.of hp) fun t H' ht s e => k t H' ht s ⟨_, e, (t1.drop b).tm (Tm.same s)⟩
theorem w_revL (h : te σ H fun x H1 => ∃ a xs, x = .ref a ∧ SqL K H1 a xs ∧ ∀ p, H1 p = none → Q (.ref p) (upd H1 p (.lst xs.reverse))) : tRevL K te σ H Q := h
theorem l_rev (h : DL H p ds) (k : ∀ t H', H t = none → Same H H' → DL H' t ds.reverse → Q (.ref t) H') : ∃ a xs, V.ref p = .ref a ∧ SqL K H a xs ∧ ∀ p, H p = none → Q (.ref p) (upd H p (.lst xs.reverse)) := by
  obtain ⟨xs, hp, t1⟩ := h
  exact ⟨p, xs, rfl, SqL.of hp, fun t ht => k t _ ht (same_upd ht) ⟨_, upd_same, t1.rev.tm (Tm.same (same_upd ht))⟩⟩
/-- tuples joined -/
theorem t_cat (h1 : TD H x (.tuple ds)) (h2 : TD H y (.tuple es)) (hn : ds ≠ []) (k : ∀ z H', Same H H' → TD H' z (.tuple (ds ++ es)) → Q z H') (hz : ds.length + es.length ≤ 100000 := by omega) : rCatT K x y H Q := by
  obtain ⟨a, xs, rfl, ha, t1⟩ := h1.tuple
  obtain ⟨b, ys, rfl, hb, t2⟩ := h2.tuple
  have l1 := t1.len
  have l2 := t2.len
  refine ⟨a, b, xs, ys, rfl, rfl, SqT.of ha, SqT.of hb, fun z => ?_, Nat.le_trans (by omega) (show 100000 ≤ sizeLine by decide), fun z => ?_, fun z p hp => ?_⟩
  · rw [z] at l1
    exact hn (List.length_eq_zero_iff.mp l1.symm)
  · rw [z] at l2
    have : es = [] := List.length_eq_zero_iff.mp l2.symm
    subst this
    refine k _ H (Same.refl H) ?_
    rw [List.append_nil]; exact .tup ha t1
  · have s := same_upd (o := .tup (xs ++ ys)) hp
    exact k _ _ s (.tup upd_same ((t1.append t2).tm (Tm.same s)))
/-! equality -/
def Sz (n : Nat) (d : PyData) : Prop := d.canLay0 = true ∧ d.depth ≤ n
theorem d_eq (hx : TD H x d) (hy : TD H y e) (sd : Sz 180 d) (se : Sz 180 e) (k : Q (.bl (PyData.eqv d e)) H) : rEqN K x y H Q := ⟨d, e, ⟨hx.dp, sd⟩, ⟨hy.dp, se⟩, k⟩
theorem d_ne (hx : TD H x d) (hy : TD H y e) (sd : Sz 180 d) (se : Sz 180 e) (k : Q (.bl (!PyData.eqv d e)) H) : rNeN K x y H Q := ⟨d, e, ⟨hx.dp, sd⟩, ⟨hy.dp, se⟩, k⟩
theorem d_inL (hx : TD H x d) (hy : DL H p ds) (sd : Sz 180 d) (se : Sz 180 (.list ds)) (k : Q (.bl (ds.any fun z => PyData.eqv z d)) H) : rInN K x (.ref p) H Q := by
  obtain ⟨xs, hp, t⟩ := hy
  exact ⟨d, ds, ⟨hx.dp, sd⟩, ⟨.lst (SqL.of hp) t.dp, se⟩, k⟩
theorem d_ninL (hx : TD H x d) (hy : DL H p ds) (sd : Sz 180 d) (se : Sz 180 (.list ds)) (k : Q (.bl (!ds.any fun z => PyData.eqv z d)) H) : rNotInN K x (.ref p) H Q := by
  obtain ⟨xs, hp, t⟩ := hy
  exact ⟨d, ds, ⟨hx.dp, sd⟩, ⟨.lst (SqL.of hp) t.dp, se⟩, k⟩
theorem d_repr (hx : TD H x (.tuple ds)) (sd : Sz 180 (.tuple ds)) (h1 : (PyData.tuple ds).showable = true) (h2 : (PyData.tuple ds).shown.length ≤ 16777216) (k : Q (.str (PyData.tuple ds).shown) H) : rRepr K [x] H Q := by
  obtain ⟨a, xs, rfl, ha, t⟩ := hx.tuple
  exact ⟨a, _, rfl, ⟨(TD.tup ha t).dp, sd⟩, h1, by rw [sizeLine_eq]; exact h2, k⟩
/-! isinstance -/
theorem TD.ty_tup (h : TD H v (.tuple ds)) : TyX K H v (.type "tuple") := by
  obtain ⟨a, xs, rfl, ha, _⟩ := h.tuple
  exact .base (.tup ha)
def tyOf : PyData → String
  | .none => "NoneType" | .bool _ => "bool" | .int _ => "int" | .str _ => "str" | .list _ => "list" | .tuple _ => "tuple" | .dict _ => "dict"
theorem TD.ty (h : TD H v d) : TyX K H v (.type (tyOf d)) := by
  cases h with
  | non => exact .base .non
  | bl b => exact .base (.bl b)
  | int i => exact .base (.int i)
  | str s => exact .base (.str s)
  | tup h k => exact .base (.tup h)
end
open PySem.AutoSeq1 in
theorem extendT_meets (l : Addr) (items : Array Value) (n : Nat) (b : Addr) (items2 : Array Value) (n2 : Nat) (dd : Option Addr) (sl : Array (Option Value)) (h0 : ¬ (!items.isEmpty && Builtin.List.listTooLong (items.size + items2.size)) = true) (h1 : items.size ≤ sizeLine) (h2 : items.size + items2.size ≤ sizeLine + 1) :
    Meets (Builtin.«list.extend» ⟨[.ref l, .ref b], []⟩) (fun _ R s => s.heap.get? l = some { cls := .type "list", dict := none, data := .seq items n, slots := #[] } ∧ s.heap.get? b = some { cls := .type "tuple", dict := dd, data := .seq items2 n2, slots := sl } ∧ R (.ok (.ret Value.none)) { s with heap := s.heap.update l (Obj.mapSeq fun x => x ++ items2), toks := s.toks }) :=
  .of_wp fun prog w A R s h => by
    obtain ⟨hp, g, d, tk, os⟩ := s
    obtain ⟨hl, hb, h⟩ := h
    have f1 := AutoSeq1.idx_int
    have f2 := AutoSeq1.sub_tuple_tuple
    have f3 := AutoSeq1.sub_list_list
    have f4 := AutoSeq1.sub_tuple_list
    have f5 := AutoSeq1.sub_list_tuple
    have hz' : (items ++ items2).size ≤ sizeLine + 1 := by rw [Array.size_append]; exact h2
    wp_walk using (wpAny_updateSeq hl rfl (hz := h1) (_hz' := hz')), wpAny_loadPart' hl, wpAny_loadPart' hb
    exact ⟨_, rfl, h⟩
/-- extend by a tuple -/
def rExtendT : V → List V → Hp → VK → Prop := fun x vs H Q => ∃ l b xs zs, x = .ref l ∧ vs = [.ref b] ∧ H l = some (.lst xs) ∧ H b = some (.tup zs) ∧ xs.length + zs.length ≤ sizeLine ∧ Q .non (upd H l (.lst (xs ++ zs)))
theorem mt_extendT {X : Cx} : MtR X "list.extend" rExtendT := by
  intro pins s σ H x vs v us Q I rx rv h
  obtain ⟨l, b, xs, zs, rfl, rfl, hH, hB, hz, q⟩ := h
  cases rx
  obtain ⟨u, rfl, ru⟩ := rv.one
  cases ru
  obtain ⟨z, its, n, r, hl, e⟩ := I.lstM hH
  obtain ⟨its2, r2, pT, hl2⟩ := I.tuple (SqT.of hB)
  obtain ⟨⟨cls, dd, data, sls⟩, ho, hc, n2, hdt⟩ := pT
  dsimp only at hc hdt
  subst hc hdt
  have r2l := r2.length
  have hsz : its.toArray.size + its2.toArray.size ≤ sizeLine := by rw [List.size_toArray, List.size_toArray]; omega
  have hlong : ¬ (!its.toArray.isEmpty && Builtin.List.listTooLong (its.toArray.size + its2.toArray.size)) = true := by
    rw [notLongL hsz, Bool.and_false]
    exact Bool.false_ne_true
  refine call_meets F.slot_list_extend ⟨_, e, rfl⟩ F.entry_list_extend (F.args_list_extend_2 _ _)
    (extendT_meets l its.toArray n b its2.toArray n2 dd sls hlong (by rw [List.size_toArray]; omega) (by omega)) ⟨e, ho, ?_⟩
  refine ⟨.non, _, I.lset (its' := its ++ its2) hH e (by simp) (r.append r2) ?_, rfl, q⟩
  rw [List.length_append]
  omega
section
variable {H : Hp} {v : V} {Q : VK} {p : Addr} {ds es : List PyData}
theorem l_extT (h : DL H p ds) (hv : TD H v (.tuple es)) (k : ∀ H', DL H' p (ds ++ es) → Ex p H H' → Q .non H') (hz : ds.length + es.length ≤ 100000 := by omega) : rExtendT (.ref p) [v] H Q := by
  obtain ⟨xs, hp, t⟩ := h
  obtain ⟨b, ys, rfl, hb, u⟩ := hv.tuple
  have ex : Ex p H (upd H p (.lst (xs ++ ys))) := fun b hb => upd_ne hb
  have tm := Tm.ex hp ex
  exact ⟨p, b, xs, ys, rfl, rfl, hp, hb, Nat.le_trans (by rw [t.len, u.len]; exact hz) (show 100000 ≤ sizeLine by decide), k _ ⟨_, upd_same, (t.append u).tm tm⟩ ex⟩
theorem l_extL {q : Addr} (h : DL H p ds) (hv : DL H q es) (k : ∀ H', DL H' p (ds ++ es) → Ex p H H' → Q .non H') (hz : ds.length + es.length ≤ 100000 := by omega) : rExtend (.ref p) [.ref q] H Q := by
  obtain ⟨xs, hp, t⟩ := h
  obtain ⟨ys, hb, u⟩ := hv
  have ex : Ex p H (upd H p (.lst (xs ++ ys))) := fun b hb => upd_ne hb
  have tm := Tm.ex hp ex
  exact ⟨p, q, xs, ys, rfl, rfl, hp, hb, Nat.le_trans (by rw [t.len, u.len]; exact hz) (show 100000 ≤ sizeLine by decide), k _ ⟨_, upd_same, (t.append u).tm tm⟩ ex⟩
end
end L2

/-! The plain law of k02: kinds, rows, trees. -/
namespace K02
open PySem L2 TL SX
abbrev wNAMED : List Nat := [110,97,109,101,100]
abbrev wFREE : List Nat := [102,114,101,101]
abbrev wTO : List Nat := [116,111]
abbrev wAPP : List Nat := [97,112,112]
abbrev wLAM : List Nat := [108,97,109]
abbrev wVAR : List Nat := [118,97,114]
abbrev wCONST : List Nat := [99,111,110,115,116]
abbrev wBOUND : List Nat := [98,111,117,110,100]
abbrev wODD : List Nat := [111,100,100]
abbrev wBOOL : List Nat := [98,111,111,108]
def LET : List Nat := [97,98,99,100,101,102,103,104,105,106,107,108,109,110,111,112,113,114,115,116,117,118,119,120,121,122]
def DIG : List Nat := [48,49,50,51,52,53,54,55,56,57,95]
def WS : List Nat := LET ++ DIG
def RES : List (List Nat) := [[97,108,108],[115,111,109,101],[108,97,109],[116,114,117,101],[102,97,108,115,101],[98,111,111,108]]
def isName (l : List Nat) : Bool := decide ((1 ≤ l.length ∧ l.length ≤ 16) ∧ l ∉ RES ∧ (∃ c, l[0]? = some c ∧ c ∈ LET) ∧ ∀ c ∈ l, c ∈ WS)
theorem name_cok {l : List Nat} (h : isName l = true) : Cok l ∧ l.length ≤ 16 := by
  have h := of_decide_eq_true h
  refine ⟨fun c hc => ?_, h.1.2⟩
  have h1 : c ∈ WS := h.2.2.2 c hc
  have h2 : ∀ c ∈ WS, c < 256 := by decide
  exact h2 c h1
/-! ### kinds -/
inductive Kd
  | nm (w : List Nat)
  | fr (w : List Nat)
  | to (a b : Kd)
  deriving DecidableEq
def Kd.d : Kd → PyData
  | .nm w => .tuple [.str (S wNAMED), .str (S w)]
  | .fr w => .tuple [.str (S wFREE), .str (S w)]
  | .to a b => .tuple [.str (S wTO), a.d, b.d]
def Kd.sz : Kd → Nat
  | .to a b => a.sz + b.sz + 1
  | _ => 1
def Kd.ht : Kd → Nat
  | .to a b => max a.ht b.ht + 1
  | _ => 1
/-- its names are names -/
def Kd.ok : Kd → Prop
  | .nm w => isName w = true ∨ w = wBOOL
  | .fr w => isName w = true
  | .to a b => a.ok ∧ b.ok
theorem Kd.sz_pos : ∀ k : Kd, 1 ≤ k.sz
  | .nm _ => Nat.le_refl _
  | .fr _ => Nat.le_refl _
  | .to a b => by show 1 ≤ a.sz + b.sz + 1; omega
theorem Kd.ht_sz : ∀ k : Kd, k.ht ≤ k.sz
  | .nm _ => Nat.le_refl _
  | .fr _ => Nat.le_refl _
  | .to a b => by
    have := a.ht_sz; have := b.ht_sz; have := a.sz_pos; have := b.sz_pos
    show max a.ht b.ht + 1 ≤ a.sz + b.sz + 1
    omega
theorem Kd.depth : ∀ k : Kd, k.d.depth = k.ht
  | .nm _ => by simp [Kd.d, Kd.ht, PyData.depth, PyData.depthAll]
  | .fr _ => by simp [Kd.d, Kd.ht, PyData.depth, PyData.depthAll]
  | .to a b => by simp [Kd.d, Kd.ht, PyData.depth, PyData.depthAll, a.depth, b.depth]
theorem S_beq {a b : List Nat} : (S a == S b) = decide (a = b) := by
  by_cases h : a = b
  · subst h; simp
  · rw [decide_eq_false h, beq_eq_false_iff_ne]; exact fun z => h (SX.S_inj z)
theorem cokNamed : Cok wNAMED := by show ∀ c ∈ wNAMED, c < 256; decide
theorem cokFree : Cok wFREE := by show ∀ c ∈ wFREE, c < 256; decide
theorem cokTo : Cok wTO := by show ∀ c ∈ wTO, c < 256; decide
theorem cokBool : Cok wBOOL := by show ∀ c ∈ wBOOL, c < 256; decide
theorem Kd.lay : ∀ k : Kd, k.ok → k.d.canLay0 = true
  | .nm w, h => by
    have c : Cok w := h.elim (fun h => (name_cok h).1) (fun h => by rw [h]; exact cokBool)
    simp only [Kd.d, PyData.canLay0, PyData.canLayAll0, strOk_S cokNamed, strOk_S c, Bool.and_self]
  | .fr w, h => by
    simp only [Kd.d, PyData.canLay0, PyData.canLayAll0, strOk_S cokFree, strOk_S (name_cok h).1, Bool.and_self]
  | .to a b, h => by
    simp only [Kd.d, PyData.canLay0, PyData.canLayAll0, strOk_S cokTo, a.lay h.1, b.lay h.2, Bool.and_self]
theorem Kd.Sz {k : Kd} (h : k.ok) {n : Nat} (z : k.ht ≤ n) : L2.Sz n k.d := ⟨k.lay h, by rw [k.depth]; exact z⟩
theorem Kd.eqv : ∀ a b : Kd, PyData.eqv a.d b.d = decide (a = b)
  | .nm w, .nm v => by
    simp only [Kd.d, PyData.eqv, PyData.eqvAll, S_beq]
    by_cases h : w = v
    · subst h; simp
    · simp [h]
  | .nm w, .fr v => by
    simp only [Kd.d, PyData.eqv, PyData.eqvAll, S_beq]
    rw [decide_eq_false (by decide)]; simp
  | .nm w, .to c e => by simp only [Kd.d, PyData.eqv, PyData.eqvAll, S_beq]; rw [decide_eq_false (by decide)]; simp
  | .fr w, .nm v => by
    simp only [Kd.d, PyData.eqv, PyData.eqvAll, S_beq]
    rw [decide_eq_false (by decide)]; simp
  | .fr w, .fr v => by
    simp only [Kd.d, PyData.eqv, PyData.eqvAll, S_beq]
    by_cases h : w = v
    · subst h; simp
    · simp [h]
  | .fr w, .to c e => by simp only [Kd.d, PyData.eqv, PyData.eqvAll, S_beq]; rw [decide_eq_false (by decide)]; simp
  | .to a b, .nm v => by simp only [Kd.d, PyData.eqv, PyData.eqvAll, S_beq]; rw [decide_eq_false (by decide)]; simp
  | .to a b, .fr v => by simp only [Kd.d, PyData.eqv, PyData.eqvAll, S_beq]; rw [decide_eq_false (by decide)]; simp
  | .to a b, .to c e => by
    simp only [Kd.d, PyData.eqv, PyData.eqvAll, S_beq, a.eqv c, b.eqv e]
    by_cases h1 : a = c
    · by_cases h2 : b = e
      · subst h1 h2; simp
      · simp [h2]
    · simp [h1]
/-! ### rows and trees -/
inductive Rw (κ τ : Type)
  | app
  | lam (k : κ)
  | tip (t : τ)
inductive Tr (κ τ : Type)
  | app (f a : Tr κ τ)
  | lam (k : κ) (b : Tr κ τ)
  | tip (t : τ)
section
variable {κ τ κ' τ' : Type}
def Rw.map (f : κ → κ') (g : τ → τ') : Rw κ τ → Rw κ' τ'
  | .app => .app
  | .lam k => .lam (f k)
  | .tip t => .tip (g t)
def Tr.map (f : κ → κ') (g : τ → τ') : Tr κ τ → Tr κ' τ'
  | .app x y => .app (x.map f g) (y.map f g)
  | .lam k b => .lam (f k) (b.map f g)
  | .tip t => .tip (g t)
def Tr.nodes : Tr κ τ → Nat
  | .app x y => x.nodes + y.nodes + 1
  | .lam _ b => b.nodes + 1
  | .tip _ => 1
def Tr.dep : Tr κ τ → Nat
  | .app x y => max x.dep y.dep + 1
  | .lam _ b => b.dep + 1
  | .tip _ => 1
theorem Tr.dep_pos : ∀ t : Tr κ τ, 1 ≤ t.dep
  | .app _ _ => Nat.succ_pos _
  | .lam _ _ => Nat.succ_pos _
  | .tip _ => Nat.le_refl _
theorem Tr.nodes_pos : ∀ t : Tr κ τ, 1 ≤ t.nodes
  | .app _ _ => Nat.succ_pos _
  | .lam _ _ => Nat.succ_pos _
  | .tip _ => Nat.le_refl _
/-- one row ahead of a forest -/
def push1 : Rw κ τ → List (Tr κ τ) → List (Tr κ τ)
  | .app, f :: a :: ts => .app f a :: ts
  | .lam k, b :: ts => .lam k b :: ts
  | .tip t, ts => .tip t :: ts
  | _, ts => ts
/-- the forest of some rows, read from the right -/
def fo : List (Rw κ τ) → List (Tr κ τ)
  | [] => []
  | r :: c => push1 r (fo c)
/-- how many trees a row takes -/
def Rw.ar : Rw κ τ → Nat
  | .app => 2
  | .lam _ => 1
  | .tip _ => 0
def fok : List (Rw κ τ) → Prop
  | [] => True
  | r :: c => r.ar ≤ (fo c).length ∧ fok c
def Vc (c : List (Rw κ τ)) (n : Nat) : Prop := fok c ∧ (fo c).length = n
theorem push1_len {r : Rw κ τ} {ts : List (Tr κ τ)} (h : r.ar ≤ ts.length) : (push1 r ts).length + r.ar = ts.length + 1 := by
  cases r with
  | app =>
    match ts, h with
    | f :: a :: ts, _ => show ts.length + 1 + 2 = ts.length + 1 + 1 + 1; omega
    | [_], h => exact absurd h (by show ¬ 2 ≤ 1; omega)
    | [], h => exact absurd h (by show ¬ 2 ≤ 0; omega)
  | lam k =>
    match ts, h with
    | b :: ts, _ => rfl
    | [], h => exact absurd h (by show ¬ 1 ≤ 0; omega)
  | tip t => rfl
theorem Vc.nil : Vc ([] : List (Rw κ τ)) 0 := ⟨trivial, rfl⟩
theorem Vc.cons {r : Rw κ τ} {c : List (Rw κ τ)} {n : Nat} (h : Vc c (n + r.ar)) : Vc (r :: c) (n + 1) := by
  have hl : r.ar ≤ (fo c).length := by rw [h.2]; omega
  refine ⟨⟨hl, h.1⟩, ?_⟩
  have := push1_len hl
  show (push1 r (fo c)).length = _
  have h2 := h.2
  omega
theorem Vc.app {c : List (Rw κ τ)} {n : Nat} (h : Vc c (n + 2)) : Vc (.app :: c) (n + 1) := Vc.cons (r := .app) h
theorem Vc.lam {c : List (Rw κ τ)} {n : Nat} {k : κ} (h : Vc c (n + 1)) : Vc (.lam k :: c) (n + 1) := Vc.cons (r := .lam k) h
theorem Vc.tip {c : List (Rw κ τ)} {n : Nat} {t : τ} (h : Vc c n) : Vc (.tip t :: c) (n + 1) := Vc.cons (r := .tip t) h
theorem Vc.uncons {r : Rw κ τ} {c : List (Rw κ τ)} {n : Nat} (h : Vc (r :: c) n) : ∃ m, n = m + 1 ∧ Vc c (m + r.ar) := by
  obtain ⟨⟨h1, h2⟩, h3⟩ := h
  have e := push1_len h1
  have h3 : (push1 r (fo c)).length = n := h3
  exact ⟨(fo c).length - r.ar, by omega, h2, by omega⟩
theorem Vc.append {c1 c2 : List (Rw κ τ)} {m n : Nat} (h1 : Vc c1 m) (h2 : Vc c2 n) : Vc (c1 ++ c2) (m + n) := by
  induction c1 generalizing m with
  | nil =>
    have : m = 0 := h1.2.symm
    subst this
    rw [Nat.zero_add]; exact h2
  | cons r c1 ih =>
    obtain ⟨k, rfl, h⟩ := h1.uncons
    have := ih h
    rw [show k + 1 + n = (k + n) + 1 by omega]
    exact Vc.cons (by rw [show k + n + r.ar = k + r.ar + n by omega]; exact this)
theorem Vc.set {c : List (Rw κ τ)} {n : Nat} (h : Vc c n) {i : Nat} {r r' : Rw κ τ} (e : c[i]? = some r) (a : r'.ar = r.ar) : Vc (c.set i r') n := by
  induction c generalizing i n with
  | nil => cases e
  | cons q c ih =>
    obtain ⟨m, rfl, h'⟩ := h.uncons
    cases i with
    | zero => cases e; exact Vc.cons (by rw [a]; exact h')
    | succ i => exact Vc.cons (ih h' e)
theorem push1_map (f : κ → κ') (g : τ → τ') (r : Rw κ τ) (ts : List (Tr κ τ)) : push1 (r.map f g) (ts.map (Tr.map f g)) = (push1 r ts).map (Tr.map f g) := by
  cases r with
  | app =>
    match ts with
    | [] => rfl
    | [_] => rfl
    | _ :: _ :: _ => rfl
  | lam k => cases ts <;> rfl
  | tip t => rfl
theorem fo_map (f : κ → κ') (g : τ → τ') : ∀ c : List (Rw κ τ), fo (c.map (Rw.map f g)) = (fo c).map (Tr.map f g)
  | [] => rfl
  | r :: c => by
    show push1 (r.map f g) (fo (c.map _)) = _
    rw [fo_map f g c, push1_map]; rfl
theorem ar_map (f : κ → κ') (g : τ → τ') (r : Rw κ τ) : (r.map f g).ar = r.ar := by cases r <;> rfl
theorem Vc.map (f : κ → κ') (g : τ → τ') {c : List (Rw κ τ)} {n : Nat} (h : Vc c n) : Vc (c.map (Rw.map f g)) n := by
  induction c generalizing n with
  | nil => exact h.2 ▸ Vc.nil
  | cons r c ih =>
    obtain ⟨m, rfl, h'⟩ := h.uncons
    exact Vc.cons (by rw [ar_map]; exact ih h')
theorem nodes_map (f : κ → κ') (g : τ → τ') : ∀ t : Tr κ τ, (t.map f g).nodes = t.nodes
  | .app x y => by show (x.map f g).nodes + (y.map f g).nodes + 1 = _; rw [nodes_map, nodes_map]; rfl
  | .lam k b => by show (b.map f g).nodes + 1 = _; rw [nodes_map]; rfl
  | .tip _ => rfl
theorem dep_map (f : κ → κ') (g : τ → τ') : ∀ t : Tr κ τ, (t.map f g).dep = t.dep
  | .app x y => by show max (x.map f g).dep (y.map f g).dep + 1 = _; rw [dep_map, dep_map]; rfl
  | .lam k b => by show (b.map f g).dep + 1 = _; rw [dep_map]; rfl
  | .tip _ => rfl
/-- the rows of a forest are as many as its nodes -/
theorem fo_nodes {c : List (Rw κ τ)} {n : Nat} (h : Vc c n) : ((fo c).map Tr.nodes).sum = c.length := by
  induction c generalizing n with
  | nil => rfl
  | cons r c ih =>
    obtain ⟨m, rfl, h'⟩ := h.uncons
    have e := ih h'
    have hl : r.ar ≤ (fo c).length := by rw [h'.2]; omega
    show ((push1 r (fo c)).map Tr.nodes).sum = c.length + 1
    rw [← e]
    clear e ih h h'
    cases r with
    | app =>
      match q : fo c, hl with
      | x :: y :: ts, _ =>
        show x.nodes + y.nodes + 1 + (ts.map Tr.nodes).sum = x.nodes + (y.nodes + (ts.map Tr.nodes).sum) + 1
        omega
      | [_], h => exact absurd h (by show ¬ 2 ≤ 1; omega)
      | [], h => exact absurd h (by show ¬ 2 ≤ 0; omega)
    | lam k =>
      match q : fo c, hl with
      | x :: ts, _ =>
        show x.nodes + 1 + (ts.map Tr.nodes).sum = x.nodes + (ts.map Tr.nodes).sum + 1
        omega
      | [], h => exact absurd h (by show ¬ 1 ≤ 0; omega)
    | tip t => show 1 + ((fo c).map Tr.nodes).sum = _; omega
theorem Vc.tree {c : List (Rw κ τ)} (h : Vc c 1) : ∃ t, fo c = [t] := by
  match q : fo c, h.2 with
  | [t], _ => exact ⟨t, rfl⟩
  | [], z => cases z
  | _ :: _ :: _, z => cases z
end
/-! ### what rows and trees are in Python -/
inductive Tp
  | tip (d : PyData)
  | odd (d : PyData)
abbrev PRow := Rw PyData Tp
abbrev PTr := Tr PyData Tp
def Tp.row : Tp → PyData
  | .tip d => d
  | .odd d => .tuple [.str (S wODD), d]
def Tp.d : Tp → PyData
  | .tip d => d
  | .odd d => d
def Rw.d : PRow → PyData
  | .app => .tuple [.str (S wAPP)]
  | .lam k => .tuple [.str (S wLAM), k]
  | .tip t => t.row
def Tr.d : PTr → PyData
  | .app f a => .tuple [.str (S wAPP), f.d, a.d]
  | .lam k b => .tuple [.str (S wLAM), k, b.d]
  | .tip t => t.d
/-- a leaf's row is told by its first word -/
def TipOk (d : PyData) : Prop := ∃ s r, d = .tuple (.str (S s) :: r) ∧ s ≠ wAPP ∧ s ≠ wLAM ∧ s ≠ wODD
def RowOk : PRow → Prop
  | .tip (.tip d) => TipOk d
  | _ => True
/-- a well-made leaf -/
inductive Lf
  | var (w : List Nat) (k : Kd)
  | cst (w : List Nat) (k : Kd)
  | bnd (i : Nat)
def Lf.d : Lf → PyData
  | .var w k => .tuple [.str (S wVAR), .str (S w), k.d]
  | .cst w k => .tuple [.str (S wCONST), .str (S w), k.d]
  | .bnd i => .tuple [.str (S wBOUND), .int (i : Int)]
abbrev G2 := Rw Kd Lf
abbrev Gt := Tr Kd Lf
def upR : G2 → PRow := Rw.map Kd.d (fun l => .tip l.d)
def upT : Gt → PTr := Tr.map Kd.d (fun l => .tip l.d)
def LOGIC : List (List Nat) := [[116,114,117,101],[102,97,108,115,101],[126],[38],[124],[61,62],[61],[97,108,108],[115,111,109,101]]
def GK (k : Kd) : Prop := k.ok ∧ k.sz ≤ 100
def Lf.ok : Lf → Prop
  | .var w k => isName w = true ∧ GK k
  | .cst w k => (isName w = true ∨ w ∈ LOGIC) ∧ GK k
  | .bnd _ => True
def Rw.gok : G2 → Prop
  | .app => True
  | .lam k => GK k
  | .tip l => l.ok
def Tr.gok : Gt → Prop
  | .app f a => f.gok ∧ a.gok
  | .lam k b => GK k ∧ b.gok
  | .tip l => l.ok
theorem lf_tip (l : Lf) : TipOk l.d := by
  cases l with
  | var w k => exact ⟨_, _, rfl, by decide, by decide, by decide⟩
  | cst w k => exact ⟨_, _, rfl, by decide, by decide, by decide⟩
  | bnd i => exact ⟨_, _, rfl, by decide, by decide, by decide⟩
theorem upR_ok (r : G2) : RowOk (upR r) := by cases r with | app => trivial | lam k => trivial | tip l => exact lf_tip l
theorem fo_gok {c : List G2} {n : Nat} (v : Vc c n) (h : ∀ r ∈ c, r.gok) : ∀ t ∈ fo c, t.gok := by
  induction c generalizing n with
  | nil => intro t ht; cases ht
  | cons r c ih =>
    obtain ⟨m, rfl, v'⟩ := v.uncons
    have hl : r.ar ≤ (fo c).length := by rw [v'.2]; omega
    have ih := ih v' fun r hr => h r (List.mem_cons_of_mem _ hr)
    have hr := h r List.mem_cons_self
    show ∀ t ∈ push1 r (fo c), t.gok
    cases r with
    | app =>
      match q : fo c, hl, ih with
      | x :: y :: ts, _, ih =>
        intro t ht
        rcases List.mem_cons.mp ht with rfl | ht
        · exact ⟨ih x (by simp), ih y (by simp)⟩
        · exact ih t (by simp [ht])
      | [_], h, _ => exact absurd h (by show ¬ 2 ≤ 1; omega)
      | [], h, _ => exact absurd h (by show ¬ 2 ≤ 0; omega)
    | lam k =>
      match q : fo c, hl, ih with
      | x :: ts, _, ih =>
        intro t ht
        rcases List.mem_cons.mp ht with rfl | ht
        · exact ⟨hr, ih x (by simp)⟩
        · exact ih t (by simp [ht])
      | [], h, _ => exact absurd h (by show ¬ 1 ≤ 0; omega)
    | tip l =>
      intro t ht
      rcases List.mem_cons.mp ht with rfl | ht
      · exact hr
      · exact ih t ht
/-! ### typing -/
def typed : Gt → List Kd → Option Kd
  | .app f a, ar => match typed f ar, typed a ar with
    | some (.to x y), some z => if x = z then some y else none
    | _, _ => none
  | .lam k b, ar => match typed b (k :: ar) with
    | some x => some (.to k x)
    | none => none
  | .tip (.var _ k), _ => some k
  | .tip (.cst _ k), _ => some k
  | .tip (.bnd i), ar => ar[i]?
/-- bound variables below l -/
def inScope : Gt → Nat → Bool
  | .app f a, l => inScope f l && inScope a l
  | .lam _ b, l => inScope b (l + 1)
  | .tip (.bnd i), l => decide (i < l)
  | .tip _, _ => true
end K02

/-! The plain law of k02: what kind_ok and _form_ok say of any value that is asked here. -/
namespace K02
open PySem L2 TL SX
/-- what _kind_parts says -/
inductive KP : PyData → Option (List PyData) → Prop
  | notT {d : PyData} (h : tyOf d ≠ "tuple") : KP d none
  | to (a b : PyData) : KP (.tuple [.str (S wTO), a, b]) (some [a, b])
  | len {ds : List PyData} (h2 : ds.length ≠ 2) (h3 : ds.length ≠ 3) : KP (.tuple ds) none
  | three {s : List Nat} (a b : PyData) (h : s ≠ wTO) : KP (.tuple [.str (S s), a, b]) none
  | two {s : List Nat} (a : PyData) (h : s ≠ wNAMED) (h' : s ≠ wFREE) : KP (.tuple [.str (S s), a]) none
  | name {s w : List Nat} (h : s = wNAMED ∨ s = wFREE) (hw : Cok w) (hl : w.length ≤ 1000) : KP (.tuple [.str (S s), .str (S w)]) (if (decide (s = wNAMED ∧ w = wBOOL) || isName w) = true then some [] else none)
  | odd {s : List Nat} {a : PyData} (h : s = wNAMED ∨ s = wFREE) (ha : tyOf a ≠ "str") (hs : L2.Sz 100 a) : KP (.tuple [.str (S s), a]) none
inductive VKd : PyData → Nat → Prop
  | leaf {d : PyData} (h : KP d (some [])) : VKd d 1
  | node {a b : PyData} {m n : Nat} (h : VKd a m) (k : VKd b n) : VKd (.tuple [.str (S wTO), a, b]) (m + n + 1)
inductive BadK : PyData → Prop
  | leaf {d : PyData} (h : KP d none) : BadK d
  | l {a b : PyData} {n : Nat} (h : BadK a) (k : VKd b n) : BadK (.tuple [.str (S wTO), a, b])
  | r {a b : PyData} {n : Nat} (h : VKd a n) (k : BadK b) : BadK (.tuple [.str (S wTO), a, b])
  | lr {a b : PyData} (h : BadK a) (k : BadK b) : BadK (.tuple [.str (S wTO), a, b])
theorem Kd.vk : ∀ k : Kd, k.ok → VKd k.d k.sz
  | .nm w, h => .leaf (by
      have hc : Cok w ∧ w.length ≤ 1000 := h.elim (fun h => ⟨(name_cok h).1, by have := (name_cok h).2; omega⟩) (fun h => by rw [h]; exact ⟨cokBool, by decide⟩)
      have := KP.name (s := wNAMED) (w := w) (.inl rfl) hc.1 hc.2
      rw [if_pos (by rcases h with h | h; rw [h, Bool.or_true]; rw [h]; decide)] at this
      exact this)
  | .fr w, h => .leaf (by
      have h : isName w = true := h
      have := KP.name (s := wFREE) (w := w) (.inr rfl) (name_cok h).1 (by have := (name_cok h).2; omega)
      rw [if_pos (by rw [h, Bool.or_true])] at this
      exact this)
  | .to a b, h => .node (a.vk h.1) (b.vk h.2)
/-- kind_ok says b of k -/
inductive KF : PyData → Bool → Prop
  | good {k : PyData} {n : Nat} (h : VKd k n) : KF k (decide (n ≤ 100))
  | bad {k : PyData} (h : BadK k) : KF k false
theorem GK.kf {k : Kd} (h : GK k) : KF k.d true := by
  have := KF.good (k.vk h.1)
  rwa [decide_eq_true h.2] at this
/-- _form_ok says b of d at level l -/
inductive LF : PyData → Nat → Bool → Prop
  | notT {d : PyData} {l : Nat} (h : tyOf d ≠ "tuple") : LF d l false
  | len {ds : List PyData} {l : Nat} (h2 : ds.length ≠ 2) (h3 : ds.length ≠ 3) : LF (.tuple ds) l false
  | two {s : List Nat} {x : PyData} {l : Nat} (h : s ≠ wBOUND) (h1 : tyOf x ≠ "int") (h2 : tyOf x ≠ "bool") : LF (.tuple [.str (S s), x]) l false
  | bndO {x : PyData} {l : Nat} (h : tyOf x ≠ "int") (h' : tyOf x ≠ "bool") : LF (.tuple [.str (S wBOUND), x]) l false
  | bnd {i : Int} {l : Nat} : LF (.tuple [.str (S wBOUND), .int i]) l (decide (0 ≤ i ∧ i < l))
  | three {s : List Nat} {x y : PyData} {l : Nat} (h1 : s ≠ wVAR) (h2 : s ≠ wCONST) (h3 : s ≠ wLAM) (h4 : s ≠ wAPP) : LF (.tuple [.str (S s), x, y]) l false
  | app {x y : PyData} {l : Nat} : LF (.tuple [.str (S wAPP), x, y]) l true
  | lam {x y : PyData} {l : Nat} {b : Bool} (h : KF x b) : LF (.tuple [.str (S wLAM), x, y]) l b
  | varO {x y : PyData} {l : Nat} (h : tyOf x ≠ "str") : LF (.tuple [.str (S wVAR), x, y]) l false
  | varN {w : List Nat} {y : PyData} {l : Nat} (hl : w.length ≤ 1000) (h : isName w = false) : LF (.tuple [.str (S wVAR), .str (S w), y]) l false
  | var {w : List Nat} {y : PyData} {l : Nat} {b : Bool} (h : isName w = true) (k : KF y b) : LF (.tuple [.str (S wVAR), .str (S w), y]) l b
  | cstO {x y : PyData} {l : Nat} (h : tyOf x ≠ "str") (hs : L2.Sz 100 x) : LF (.tuple [.str (S wCONST), x, y]) l false
  | cstN {w : List Nat} {y : PyData} {l : Nat} (hl : w.length ≤ 1000) (hc : Cok w) (h : isName w = false) (h' : w ∉ LOGIC) : LF (.tuple [.str (S wCONST), .str (S w), y]) l false
  | cst {w : List Nat} {y : PyData} {l : Nat} {b : Bool} (hl : w.length ≤ 1000) (h : isName w = true ∨ w ∈ LOGIC) (k : KF y b) : LF (.tuple [.str (S wCONST), .str (S w), y]) l b
/-- all parts of a tree, asked one by one, give b together -/
inductive AK : PTr → Nat → Bool → Prop
  | app {f a : PTr} {l : Nat} {b c : Bool} (h : AK f l b) (k : AK a l c) : AK (.app f a) l (b && c)
  | lam {k : PyData} {t : PTr} {l : Nat} {b c : Bool} (h : KF k b) (j : AK t (l + 1) c) : AK (.lam k t) l (b && c)
  | tip {t : Tp} {l : Nat} {b : Bool} (h : LF t.d l b) (hl : b = true → ∀ s r, t.d = .tuple (.str (S s) :: r) → s ≠ wAPP ∧ s ≠ wLAM) : AK (.tip t) l b
theorem Lf.lf {l : Lf} (h : l.ok) (n : Nat) : LF l.d n (inScope (.tip l) n) := by
  cases l with
  | var w k => exact .var h.1 h.2.kf
  | cst w k =>
    have : w.length ≤ 1000 := h.1.elim (fun h => by have := (name_cok h).2; omega) (fun h => by
      have : ∀ w ∈ LOGIC, w.length ≤ 1000 := by decide
      exact this w h)
    exact .cst this h.1 h.2.kf
  | bnd i =>
    have := LF.bnd (i := (i : Int)) (l := n)
    rw [show decide (0 ≤ (i : Int) ∧ (i : Int) < (n : Int)) = decide (i < n) by
      by_cases z : i < n
      · rw [decide_eq_true z, decide_eq_true (by omega)]
      · rw [decide_eq_false z, decide_eq_false (by omega)]] at this
    exact this
theorem Tr.gok_ak : ∀ {t : Gt} (n : Nat), t.gok → AK (upT t) n (inScope t n)
  | .app f a, n, h => .app (gok_ak n h.1) (gok_ak n h.2)
  | .lam k b, n, h => by
    have := AK.lam h.1.kf (gok_ak (n + 1) h.2)
    rw [Bool.true_and] at this
    exact this
  | .tip l, n, h => .tip (Lf.lf h n) (fun _ s r e => by
      have e : l.d = .tuple (.str (S s) :: r) := e
      cases l with
      | var w k =>
        have : S wVAR = S s := by have := e; simp only [Lf.d, PyData.tuple.injEq, List.cons.injEq, PyData.str.injEq] at this; exact this.1
        rw [← SX.S_inj this]; exact ⟨by decide, by decide⟩
      | cst w k =>
        have : S wCONST = S s := by have := e; simp only [Lf.d, PyData.tuple.injEq, List.cons.injEq, PyData.str.injEq] at this; exact this.1
        rw [← SX.S_inj this]; exact ⟨by decide, by decide⟩
      | bnd i =>
        have : S wBOUND = S s := by have := e; simp only [Lf.d, PyData.tuple.injEq, List.cons.injEq, PyData.str.injEq] at this; exact this.1
        rw [← SX.S_inj this]; exact ⟨by decide, by decide⟩)
theorem LF.head {d : PyData} {l : Nat} (h : LF d l true) : ∃ s r, d = .tuple (.str (S s) :: r) := by
  generalize hb : true = b at h
  cases h with
  | notT h => cases hb
  | len h2 h3 => cases hb
  | two h h1 h2 => cases hb
  | bndO h h' => cases hb
  | bnd => exact ⟨_, _, rfl⟩
  | three h1 h2 h3 h4 => cases hb
  | app => exact ⟨_, _, rfl⟩
  | lam h => exact ⟨_, _, rfl⟩
  | varO h => cases hb
  | varN hl h => cases hb
  | var h k => exact ⟨_, _, rfl⟩
  | cstO h hs => cases hb
  | cstN hl hc h h' => cases hb
  | cst hl h k => exact ⟨_, _, rfl⟩
/-- a tree's root and its parts -/
def Parts (t : PTr) (l : Nat) (b : Bool) : Prop := match t with
  | .app f a => ∃ c1 c2, AK f l c1 ∧ AK a l c2 ∧ b = (c1 && c2)
  | .lam _ u => ∃ c, AK u (l + 1) c ∧ b = c
  | .tip p => b = true ∧ ∃ s r, p.d = .tuple (.str (S s) :: r) ∧ s ≠ wAPP ∧ s ≠ wLAM
theorem AK.root {t : PTr} {l : Nat} {b : Bool} (h : AK t l b) : ∃ b0, LF t.d l b0 ∧ (b0 = false → b = false) ∧ (b0 = true → Parts t l b) := by
  cases h with
  | app h k => exact ⟨true, .app, (fun z => by cases z), fun _ => ⟨_, _, h, k, rfl⟩⟩
  | lam h j =>
    rename_i k t b0 c
    exact ⟨b0, .lam h, (fun z => by rw [z]; rfl), fun z => ⟨_, j, by rw [z]; rfl⟩⟩
  | tip h hl =>
    refine ⟨b, h, id, fun z => ?_⟩
    subst z
    obtain ⟨s, r, e⟩ := h.head
    exact ⟨rfl, s, r, e, hl rfl s r e⟩
/-! the stack of a walk over a tree: parts with their depths -/
def dm {α : Type} (dep : α → Nat) (p : α → Nat) : List α → Nat
  | [] => 0
  | e :: r => max (p e + dep e) (dm dep p r)
theorem dm_app {α : Type} (dep p : α → Nat) : ∀ xs ys : List α, dm dep p (xs ++ ys) = max (dm dep p xs) (dm dep p ys)
  | [], ys => by show dm dep p ys = max 0 _; omega
  | e :: r, ys => by show max _ (dm dep p (r ++ ys)) = max (max _ _) _; rw [dm_app dep p r ys]; omega
theorem typed_ht : ∀ {g : Gt} {ar : List Kd} {k : Kd}, g.gok → (∀ k ∈ ar, k.ok ∧ k.ht ≤ 100) → typed g ar = some k → k.ok ∧ k.ht ≤ 100 + g.dep
  | .app f a, ar, k, h, ha, e => by
    unfold typed at e
    cases e1 : typed f ar with
    | none => rw [e1] at e; cases e
    | some x =>
      cases e2 : typed a ar with
      | none => rw [e1, e2] at e; cases x <;> cases e
      | some z =>
        rw [e1, e2] at e
        obtain ⟨q1, q2⟩ := typed_ht h.1 ha e1
        cases x with
        | nm w => cases e
        | fr w => cases e
        | to x y =>
          dsimp only at e
          split at e
          · cases e
            have q2 : max x.ht k.ht + 1 ≤ 100 + f.dep := q2
            exact ⟨q1.2, by show k.ht ≤ 100 + (max f.dep a.dep + 1); omega⟩
          · cases e
  | .lam k b, ar, k', h, ha, e => by
    unfold typed at e
    cases e1 : typed b (k :: ar) with
    | none => rw [e1] at e; cases e
    | some x =>
      rw [e1] at e
      cases e
      have hk : k.ht ≤ 100 := Nat.le_trans k.ht_sz h.1.2
      obtain ⟨q1, q2⟩ := typed_ht h.2 (fun k' hk' => by
        rcases List.mem_cons.mp hk' with rfl | hk'
        · exact ⟨h.1.1, hk⟩
        · exact ha k' hk') e1
      exact ⟨⟨h.1.1, q1⟩, by show max k.ht x.ht + 1 ≤ 100 + (b.dep + 1); omega⟩
  | .tip (.var w k), ar, k', h, ha, e => by
    have e : some k = some k' := e
    cases e
    exact ⟨h.2.1, by have := k.ht_sz; have := h.2.2; show k.ht ≤ 100 + 1; omega⟩
  | .tip (.cst w k), ar, k', h, ha, e => by
    have e : some k = some k' := e
    cases e
    exact ⟨h.2.1, by have := k.ht_sz; have := h.2.2; show k.ht ≤ 100 + 1; omega⟩
  | .tip (.bnd i), ar, k', h, ha, e => by
    have e : ar[i]? = some k' := e
    obtain ⟨q1, q2⟩ := ha k' (List.mem_of_getElem? e)
    exact ⟨q1, by omega⟩
/-- what the program answers -/
def wf (g : Gt) : Option Kd := if inScope g 0 = true ∧ g.nodes ≤ 400 ∧ g.dep ≤ 50 then typed g [] else none
/-! the loop of kind_ok: what is asked so far, what waits -/
def KO (size : Nat) (ds : List PyData) (b : Bool) : Prop :=
  (∃ ns, Paired VKd ds ns ∧ b = decide (size + ns.sum ≤ 100)) ∨ ((∀ d ∈ ds, (∃ n, VKd d n) ∨ BadK d) ∧ (∃ d ∈ ds, BadK d) ∧ b = false)
theorem KO.start {d : PyData} {b : Bool} (h : KF d b) : KO 0 [d] b := by
  cases h with
  | good h => rename_i n; exact .inl ⟨[n], .cons h .nil, by simp⟩
  | bad h => exact .inr ⟨fun e he => by rw [List.mem_singleton.mp he]; exact .inr h, ⟨d, List.mem_singleton.mpr rfl, h⟩, rfl⟩
theorem KO.done {size : Nat} {b : Bool} (h : KO size [] b) (z : size ≤ 100) : b = true := by
  rcases h with ⟨ns, p, rfl⟩ | ⟨_, ⟨d, hd, _⟩, _⟩
  · cases p; exact decide_eq_true (by simpa using z)
  · cases hd
theorem KO.over {size : Nat} {ds : List PyData} {b : Bool} (h : KO size ds b) (z : 100 < size) : b = false := by
  rcases h with ⟨ns, p, rfl⟩ | ⟨_, _, h⟩
  · exact decide_eq_false (by omega)
  · exact h
theorem paired_snoc {α β : Type} {R : α → β → Prop} : ∀ {xs : List α} {x : α} {ys : List β}, Paired R (xs ++ [x]) ys → ∃ zs y, ys = zs ++ [y] ∧ Paired R xs zs ∧ R x y
  | [], x, _, .cons a r => by cases r; exact ⟨[], _, rfl, .nil, a⟩
  | x' :: xs, x, _, .cons a r => by
    obtain ⟨zs, y, rfl, p, q⟩ := paired_snoc r
    exact ⟨_ :: zs, y, rfl, .cons a p, q⟩
theorem paired_app {α β : Type} {R : α → β → Prop} : ∀ {xs : List α} {ys : List β} {xs' : List α} {ys' : List β}, Paired R xs ys → Paired R xs' ys' → Paired R (xs ++ xs') (ys ++ ys')
  | _, _, _, _, .nil, q => q
  | _, _, _, _, .cons a r, q => .cons a (paired_app r q)
theorem KO.step {size : Nat} {ds : List PyData} {e : PyData} {b : Bool} (h : KO size (ds ++ [e]) b) : ∃ o, KP e o ∧ (o = none → b = false) ∧ ∀ l, o = some l → KO (size + 1) (ds ++ l) b ∧ l.length ≤ 2 := by
  rcases h with ⟨ns, p, rfl⟩ | ⟨h1, ⟨d, hd, hb⟩, rfl⟩
  · obtain ⟨ms, n, rfl, p1, q⟩ := paired_snoc p
    cases q with
    | leaf hk =>
      refine ⟨_, hk, (fun z => by cases z), fun l z => ?_⟩
      cases z
      exact ⟨.inl ⟨ms, by rw [List.append_nil]; exact p1, by rw [List.sum_append]; congr 1; simp; omega⟩, Nat.zero_le _⟩
    | node ha hc =>
      rename_i a c m k
      refine ⟨_, .to a c, (fun z => by cases z), fun l z => ?_⟩
      cases z
      refine ⟨.inl ⟨ms ++ [m, k], paired_app p1 (.cons ha (.cons hc .nil)), ?_⟩, Nat.le_refl _⟩
      rw [List.sum_append, List.sum_append]; congr 1; simp; omega
  · have rest : ∀ l : List PyData, (∀ x ∈ l, (∃ n, VKd x n) ∨ BadK x) → ((∃ x ∈ ds, BadK x) ∨ ∃ x ∈ l, BadK x) → KO (size + 1) (ds ++ l) false := fun l q1 q2 => by
      refine .inr ⟨fun x hx => ?_, ?_, rfl⟩
      · rcases List.mem_append.mp hx with hx | hx
        · exact h1 x (List.mem_append_left _ hx)
        · exact q1 x hx
      · rcases q2 with ⟨x, hx, hx'⟩ | ⟨x, hx, hx'⟩
        · exact ⟨x, List.mem_append_left _ hx, hx'⟩
        · exact ⟨x, List.mem_append_right _ hx, hx'⟩
    have hbad : BadK e ∨ ((∃ x ∈ ds, BadK x) ∧ ∃ n, VKd e n) := by
      rcases List.mem_append.mp hd with hd | hd
      · rcases h1 e (List.mem_append_right _ (List.mem_singleton.mpr rfl)) with h | h
        · exact .inr ⟨⟨d, hd, hb⟩, h⟩
        · exact .inl h
      · rw [List.mem_singleton.mp hd] at hb; exact .inl hb
    rcases hbad with hbad | ⟨hx, n, hv⟩
    · cases hbad with
      | leaf hk => exact ⟨_, hk, (fun _ => rfl), fun l z => by cases z⟩
      | l ha hc =>
        rename_i a c n
        refine ⟨_, .to a c, (fun z => by cases z), fun l z => ?_⟩
        cases z
        exact ⟨rest _ (by intro x hx; simp at hx; rcases hx with rfl | rfl; exact .inr ha; exact .inl ⟨_, hc⟩) (.inr ⟨a, by simp, ha⟩), Nat.le_refl _⟩
      | r ha hc =>
        rename_i a c n
        refine ⟨_, .to a c, (fun z => by cases z), fun l z => ?_⟩
        cases z
        exact ⟨rest _ (by intro x hx; simp at hx; rcases hx with rfl | rfl; exact .inl ⟨_, ha⟩; exact .inr hc) (.inr ⟨c, by simp, hc⟩), Nat.le_refl _⟩
      | lr ha hc =>
        rename_i a c
        refine ⟨_, .to a c, (fun z => by cases z), fun l z => ?_⟩
        cases z
        exact ⟨rest _ (by intro x hx; simp at hx; rcases hx with rfl | rfl; exact .inr ha; exact .inr hc) (.inr ⟨a, by simp, ha⟩), Nat.le_refl _⟩
    · cases hv with
      | leaf hk =>
        refine ⟨_, hk, (fun z => by cases z), fun l z => ?_⟩
        cases z
        exact ⟨rest [] (fun x hx => by cases hx) (.inl hx), Nat.zero_le _⟩
      | node ha hc =>
        rename_i a c m k
        refine ⟨_, .to a c, (fun z => by cases z), fun l z => ?_⟩
        cases z
        exact ⟨rest _ (by intro x hx; simp at hx; rcases hx with rfl | rfl; exact .inl ⟨_, ha⟩; exact .inl ⟨_, hc⟩) (.inl hx), Nat.le_refl _⟩
end K02

/-! The plain law of k02: walks over rows. -/
namespace K02
open PySem L2 TL SX
section
variable {κ τ : Type} {α : Type}
theorem fok_drop {c : List (Rw κ τ)} (h : fok c) (k : Nat) : fok (c.drop k) := by
  induction k generalizing c with
  | zero => exact h
  | succ k ih =>
    cases c with
    | nil => exact h
    | cons r c => exact ih h.2
/-- the row at k and what is behind it -/
theorem drop_at {c : List (Rw κ τ)} {k : Nat} {r : Rw κ τ} (e : c[k]? = some r) : c.drop k = r :: c.drop (k + 1) := by
  obtain ⟨hk, rfl⟩ := List.getElem?_eq_some_iff.mp e
  exact List.drop_eq_getElem_cons hk
theorem fo_at {c : List (Rw κ τ)} {k : Nat} {r : Rw κ τ} (e : c[k]? = some r) : fo (c.drop k) = push1 r (fo (c.drop (k + 1))) := by rw [drop_at e]; rfl
theorem ar_at {c : List (Rw κ τ)} (h : fok c) {k : Nat} {r : Rw κ τ} (e : c[k]? = some r) : r.ar ≤ (fo (c.drop (k + 1))).length := by
  have := fok_drop h k
  rw [drop_at e] at this
  exact this.1
theorem two_of {l : List α} (h : 2 ≤ l.length) : ∃ a b r, l = a :: b :: r := by
  match l, h with
  | a :: b :: r, _ => exact ⟨a, b, r, rfl⟩
  | [_], h => exact absurd h (by show ¬ 2 ≤ 1; omega)
  | [], h => exact absurd h (by show ¬ 2 ≤ 0; omega)
theorem one_of {l : List α} (h : 1 ≤ l.length) : ∃ a r, l = a :: r := by
  match l, h with
  | a :: r, _ => exact ⟨a, r, rfl⟩
  | [], h => exact absurd h (by show ¬ 1 ≤ 0; omega)
/-- the trees behind a row: what they are and what they become -/
theorem at_app {c : List (Rw κ τ)} (h : fok c) {k : Nat} (e : c[k]? = some .app) : ∃ f a ts, fo (c.drop (k + 1)) = f :: a :: ts ∧ fo (c.drop k) = .app f a :: ts := by
  obtain ⟨f, a, ts, q⟩ := two_of (ar_at h e)
  exact ⟨f, a, ts, q, by rw [fo_at e, q]; rfl⟩
theorem at_lam {c : List (Rw κ τ)} (h : fok c) {k : Nat} {x : κ} (e : c[k]? = some (.lam x)) : ∃ b ts, fo (c.drop (k + 1)) = b :: ts ∧ fo (c.drop k) = .lam x b :: ts := by
  obtain ⟨b, ts, q⟩ := one_of (ar_at h e)
  exact ⟨b, ts, q, by rw [fo_at e, q]; rfl⟩
theorem at_tip {c : List (Rw κ τ)} {k : Nat} {t : τ} (e : c[k]? = some (.tip t)) : fo (c.drop k) = .tip t :: fo (c.drop (k + 1)) := by rw [fo_at e]; rfl
theorem fo_len {c : List (Rw κ τ)} (h : fok c) (k : Nat) : (fo (c.drop k)).length ≤ c.length - k := by
  induction c generalizing k with
  | nil => cases k <;> exact Nat.zero_le _
  | cons r c ih =>
    cases k with
    | zero =>
      have e := push1_len h.1
      have := ih h.2 0
      have h2 : (fo (c.drop 0)).length ≤ c.length - 0 := this
      rw [List.drop_zero] at h2
      show (push1 r (fo c)).length ≤ (c.length + 1) - 0
      omega
    | succ k =>
      have := ih h.2 k
      show (fo (c.drop k)).length ≤ (c.length + 1) - (k + 1)
      omega
/-! what waits -/
def nxt (ap : α → α) (lm : κ → α → α) : Rw κ τ → List α → List α
  | .app, p :: ps => ap p :: ap p :: ps
  | .lam k, p :: ps => lm k p :: ps
  | .tip _, _ :: ps => ps
  | _, [] => []
def pend (ap : α → α) (lm : κ → α → α) (c : List (Rw κ τ)) (p0 : List α) : Nat → List α
  | 0 => p0
  | k + 1 => match c[k]? with
    | some r => nxt ap lm r (pend ap lm c p0 k)
    | none => pend ap lm c p0 k
theorem pend_at {ap : α → α} {lm : κ → α → α} {c : List (Rw κ τ)} {p0 : List α} {k : Nat} {r : Rw κ τ} (e : c[k]? = some r) : pend ap lm c p0 (k + 1) = nxt ap lm r (pend ap lm c p0 k) := by
  show (match c[k]? with | some r => nxt ap lm r (pend ap lm c p0 k) | none => _) = _
  rw [e]
theorem pend_len {ap : α → α} {lm : κ → α → α} {c : List (Rw κ τ)} {p0 : List α} (h : fok c) (h0 : p0.length = (fo c).length) : ∀ k, k ≤ c.length → (pend ap lm c p0 k).length = (fo (c.drop k)).length
  | 0, _ => h0
  | k + 1, hk => by
    have ih := pend_len (ap := ap) (lm := lm) h h0 k (by omega)
    have e : c[k]? = some c[k] := List.getElem?_eq_getElem (by omega)
    rw [pend_at e]
    have hl := push1_len (ar_at h e)
    rw [← fo_at e] at hl
    generalize c[k] = r at e hl
    generalize hp : pend ap lm c p0 k = ps at ih
    cases ps with
    | nil =>
      have ih : 0 = (fo (c.drop k)).length := ih
      have := ar_at h e
      have hpos : 1 ≤ (fo (c.drop k)).length := by omega
      omega
    | cons p ps =>
      have ih : ps.length + 1 = (fo (c.drop k)).length := ih
      cases r with
      | app => show ps.length + 1 + 1 = _; have hl : _ + 2 = _ := hl; omega
      | lam x => show ps.length + 1 = _; have hl : _ + 1 = _ := hl; omega
      | tip t => show ps.length = _; have hl : _ + 0 = _ := hl; omega
theorem fo_ne {c : List (Rw κ τ)} (h : fok c) {k : Nat} {r : Rw κ τ} (e : c[k]? = some r) : 1 ≤ (fo (c.drop k)).length := by
  have hl := push1_len (ar_at h e)
  rw [← fo_at e] at hl
  have := ar_at h e
  omega
/-- depths that wait, with their trees -/
def zd : List Nat → List (Tr κ τ) → Nat
  | p :: ps, t :: ts => max (p + t.dep) (zd ps ts)
  | _, _ => 0
theorem zd_step {c : List (Rw κ τ)} (h : fok c) {k : Nat} {r : Rw κ τ} (e : c[k]? = some r) (p : Nat) (ps : List Nat) :
    max (p + 1) (zd (nxt (· + 1) (fun _ => (· + 1)) r (p :: ps)) (fo (c.drop (k + 1)))) = zd (p :: ps) (fo (c.drop k)) := by
  cases r with
  | app =>
    obtain ⟨f, a, ts, q1, q2⟩ := at_app h e
    rw [q1, q2]
    have := f.dep_pos; have := a.dep_pos
    show max (p + 1) (max (p + 1 + f.dep) (max (p + 1 + a.dep) (zd ps ts))) = max (p + (max f.dep a.dep + 1)) (zd ps ts)
    omega
  | lam x =>
    obtain ⟨b, ts, q1, q2⟩ := at_lam h e
    rw [q1, q2]
    have := b.dep_pos
    show max (p + 1) (max (p + 1 + b.dep) (zd ps ts)) = max (p + (b.dep + 1)) (zd ps ts)
    omega
  | tip t =>
    rw [at_tip e]
    show max (p + 1) (zd ps (fo (c.drop (k + 1)))) = max (p + 1) (zd ps (fo (c.drop (k + 1))))
    rfl
end
/-! typing by rows -/
/-- what waits: the kinds of the bound variables -/
abbrev pa (c : List G2) (k : Nat) : List (List Kd) := pend id (fun k p => k :: p) c [[]] k
/-- the trees behind row k have these kinds -/
def tys : List (List Kd) → List Gt → List (Option Kd)
  | p :: ps, t :: ts => typed t p :: tys ps ts
  | _, _ => []
theorem tys_bad {c : List G2} (h : fok c) (h1 : (fo c).length = 1) : ∀ k, k ≤ c.length → none ∈ tys (pa c k) (fo (c.drop k)) → none ∈ tys (pa c 0) (fo c)
  | 0, _, z => z
  | k + 1, hk, z => by
    refine tys_bad h h1 k (by omega) ?_
    have e : c[k]? = some c[k] := List.getElem?_eq_getElem (by omega)
    have hlen := pend_len (ap := id) (lm := fun k p => k :: p) (p0 := [([] : List Kd)]) h h1.symm k (by omega)
    have hpos := fo_ne h e
    unfold pa at z
    rw [pend_at e] at z
    generalize c[k] = r at e z
    obtain ⟨p, ps, hp⟩ := one_of (show 1 ≤ (pend id (fun k p => k :: p) c [([] : List Kd)] k).length by omega)
    unfold pa
    rw [hp] at z ⊢
    cases r with
    | app =>
      obtain ⟨f, a, ts, q1, q2⟩ := at_app h e
      rw [q1] at z
      rw [q2]
      have z : none ∈ typed f p :: typed a p :: tys ps ts := z
      show none ∈ typed (.app f a) p :: tys ps ts
      rcases List.mem_cons.mp z with z | z
      · exact List.mem_cons.mpr (.inl (by unfold typed; rw [← z]))
      · rcases List.mem_cons.mp z with z | z
        · exact List.mem_cons.mpr (.inl (by
            unfold typed; rw [← z]
            cases typed f p with
            | none => rfl
            | some x => cases x <;> rfl))
        · exact List.mem_cons.mpr (.inr z)
    | lam x =>
      obtain ⟨b, ts, q1, q2⟩ := at_lam h e
      rw [q1] at z
      rw [q2]
      have z : none ∈ typed b (x :: p) :: tys ps ts := z
      show none ∈ typed (.lam x b) p :: tys ps ts
      rcases List.mem_cons.mp z with z | z
      · exact List.mem_cons.mpr (.inl (by unfold typed; rw [← z]))
      · exact List.mem_cons.mpr (.inr z)
    | tip t =>
      rw [at_tip e]
      exact List.mem_cons.mpr (.inr z)
/-- all that waits has this -/
theorem pend_all {κ τ α : Type} {ap : α → α} {lm : κ → α → α} {c : List (Rw κ τ)} {p0 : List α} (R : Nat → α → Prop) (up : ∀ i a, R i a → R (i + 1) a) (h0 : ∀ a ∈ p0, R 0 a) (h1 : ∀ i a, R i a → R (i + 1) (ap a)) (h2 : ∀ (i : Nat) (k : κ) (a : α), Rw.lam k ∈ c → R i a → R (i + 1) (lm k a)) :
    ∀ k, k ≤ c.length → ∀ a ∈ pend ap lm c p0 k, R k a
  | 0, _, a, ha => h0 a ha
  | k + 1, hk, a, ha => by
    have ih := pend_all R up h0 h1 h2 k (by omega)
    have e : c[k]? = some c[k] := List.getElem?_eq_getElem (by omega)
    have hm : c[k] ∈ c := List.getElem_mem (by omega)
    rw [pend_at e] at ha
    generalize c[k] = r at ha hm
    generalize pend ap lm c p0 k = ps at ih ha
    cases ps with
    | nil => cases r <;> cases ha
    | cons p ps =>
      cases r with
      | app =>
        have ha : a ∈ ap p :: ap p :: ps := ha
        rcases List.mem_cons.mp ha with rfl | ha
        · exact h1 k p (ih p List.mem_cons_self)
        · rcases List.mem_cons.mp ha with rfl | ha
          · exact h1 k p (ih p List.mem_cons_self)
          · exact up k a (ih a (List.mem_cons_of_mem _ ha))
      | lam x =>
        have ha : a ∈ lm x p :: ps := ha
        rcases List.mem_cons.mp ha with rfl | ha
        · exact h2 k x p hm (ih p List.mem_cons_self)
        · exact up k a (ih a (List.mem_cons_of_mem _ ha))
      | tip t =>
        have ha : a ∈ ps := ha
        exact up k a (ih a (List.mem_cons_of_mem _ ha))
theorem pa_len {c : List G2} {k : Nat} (hk : k ≤ c.length) {p : List Kd} (hp : p ∈ pa c k) : p.length ≤ k :=
  pend_all (fun i (p : List Kd) => p.length ≤ i) (fun i a h => by omega) (fun a ha => by rw [List.mem_singleton.mp ha]; exact Nat.zero_le _) (fun i a h => by show a.length ≤ _; omega) (fun i k a _ h => by show a.length + 1 ≤ _; omega) k hk p hp
theorem pa_gk {c : List G2} (hc : ∀ r ∈ c, r.gok) {k : Nat} (hk : k ≤ c.length) {p : List Kd} (hp : p ∈ pa c k) : ∀ x ∈ p, GK x :=
  pend_all (fun _ (p : List Kd) => ∀ x ∈ p, GK x) (fun i a h => h) (fun a ha x hx => by rw [List.mem_singleton.mp ha] at hx; cases hx) (fun i a h => h) (fun i k a hm h x hx => by
    rcases List.mem_cons.mp hx with rfl | hx
    · exact hc _ hm
    · exact h x hx) k hk p hp
theorem dep_drop {κ τ : Type} {c : List (Rw κ τ)} (h : fok c) {D : Nat} (h0 : ∀ t ∈ fo c, t.dep ≤ D) : ∀ k, k ≤ c.length → ∀ t ∈ fo (c.drop k), t.dep ≤ D
  | 0, _ => h0
  | k + 1, hk => by
    have ih := dep_drop h h0 k (by omega)
    have e : c[k]? = some c[k] := List.getElem?_eq_getElem (by omega)
    generalize c[k] = r at e
    cases r with
    | app =>
      obtain ⟨f, a, ts, q1, q2⟩ := at_app h e
      rw [q1]
      rw [q2] at ih
      have z : max f.dep a.dep + 1 ≤ D := ih _ List.mem_cons_self
      intro t ht
      rcases List.mem_cons.mp ht with rfl | ht
      · omega
      · rcases List.mem_cons.mp ht with rfl | ht
        · omega
        · exact ih t (List.mem_cons_of_mem _ ht)
    | lam x =>
      obtain ⟨b, ts, q1, q2⟩ := at_lam h e
      rw [q1]
      rw [q2] at ih
      have z : b.dep + 1 ≤ D := ih _ List.mem_cons_self
      intro t ht
      rcases List.mem_cons.mp ht with rfl | ht
      · omega
      · exact ih t (List.mem_cons_of_mem _ ht)
    | tip x =>
      intro t ht
      rw [at_tip e] at ih
      exact ih t (List.mem_cons_of_mem _ ht)
theorem Vc_drop {κ τ : Type} {c : List (Rw κ τ)} (h : fok c) (k : Nat) : Vc (c.drop k) (fo (c.drop k)).length := ⟨fok_drop h k, rfl⟩
theorem gok_drop {c : List G2} (h : fok c) (hc : ∀ r ∈ c, r.gok) (k : Nat) : ∀ t ∈ fo (c.drop k), t.gok := fo_gok (Vc_drop h k) fun r hr => hc r (List.mem_of_mem_drop hr)
theorem typed_sz : ∀ {g : Gt} {ar : List Kd} {k : Kd}, g.gok → (∀ k ∈ ar, k.sz ≤ 100) → typed g ar = some k → k.sz ≤ 101 * g.nodes
  | .app f a, ar, k, h, ha, e => by
    unfold typed at e
    cases e1 : typed f ar with
    | none => rw [e1] at e; cases e
    | some x =>
      cases e2 : typed a ar with
      | none => rw [e1, e2] at e; cases x <;> cases e
      | some z =>
        rw [e1, e2] at e
        have q := typed_sz h.1 ha e1
        cases x with
        | nm w => cases e
        | fr w => cases e
        | to x y =>
          dsimp only at e
          split at e
          · cases e
            have q : x.sz + k.sz + 1 ≤ 101 * f.nodes := q
            show k.sz ≤ 101 * (f.nodes + a.nodes + 1); omega
          · cases e
  | .lam k b, ar, k', h, ha, e => by
    unfold typed at e
    cases e1 : typed b (k :: ar) with
    | none => rw [e1] at e; cases e
    | some x =>
      rw [e1] at e
      cases e
      have q := typed_sz h.2 (fun k' hk' => by
        rcases List.mem_cons.mp hk' with rfl | hk'
        · exact h.1.2
        · exact ha k' hk') e1
      have := h.1.2
      show k.sz + x.sz + 1 ≤ 101 * (b.nodes + 1); omega
  | .tip (.var w k), ar, k', h, ha, e => by
    have e : some k = some k' := e
    cases e
    have := h.2.2
    show k.sz ≤ 101 * 1; omega
  | .tip (.cst w k), ar, k', h, ha, e => by
    have e : some k = some k' := e
    cases e
    have := h.2.2
    show k.sz ≤ 101 * 1; omega
  | .tip (.bnd i), ar, k', h, ha, e => by
    have e : ar[i]? = some k' := e
    have := ha k' (List.mem_of_getElem? e)
    show k'.sz ≤ 101 * 1; omega
theorem typed_scope : ∀ {g : Gt} {ar : List Kd} {k : Kd}, typed g ar = some k → inScope g ar.length = true
  | .app f a, ar, k, e => by
    unfold typed at e
    cases e1 : typed f ar with
    | none => rw [e1] at e; cases e
    | some x =>
      cases e2 : typed a ar with
      | none => rw [e1, e2] at e; cases x <;> cases e
      | some z =>
        show (inScope f ar.length && inScope a ar.length) = true
        rw [typed_scope e1, typed_scope e2]; rfl
  | .lam k b, ar, k', e => by
    unfold typed at e
    cases e1 : typed b (k :: ar) with
    | none => rw [e1] at e; cases e
    | some x => exact typed_scope (g := b) (ar := k :: ar) e1
  | .tip (.var w k), ar, k', e => rfl
  | .tip (.cst w k), ar, k', e => rfl
  | .tip (.bnd i), ar, k', e => by
    have e : ar[i]? = some k' := e
    exact decide_eq_true (List.getElem?_eq_some_iff.mp e).1
/-- what the law awaits is what the program answers -/
theorem wf_due (g : Gt) : wf g = if g.nodes ≤ 400 ∧ g.dep ≤ 50 then typed g [] else none := by
  unfold wf
  by_cases h : g.nodes ≤ 400 ∧ g.dep ≤ 50
  · rw [if_pos h]
    by_cases hs : inScope g 0 = true
    · rw [if_pos ⟨hs, h⟩]
    · rw [if_neg (fun z => hs z.1)]
      cases e : typed g [] with
      | none => rfl
      | some k => exact absurd (typed_scope e) hs
  · rw [if_neg h, if_neg (fun z => h z.2)]
theorem Kd.short : ∀ k : Kd, k.ok → k.d.leavesShort 8 = true
  | .nm w, h => by
    have c : Cok w := h.elim (fun h => (name_cok h).1) (fun h => by rw [h]; exact cokBool)
    simp only [Kd.d, PyData.leavesShort, PyData.leavesShortAll, Bool.and_true, Bool.and_eq_true, List.all_eq_true, decide_eq_true_eq, S_get]
    exact ⟨fun c hc => Nat.lt_trans (cokNamed c hc) (by decide), fun x hx => Nat.lt_trans (c x hx) (by decide)⟩
  | .fr w, h => by
    simp only [Kd.d, PyData.leavesShort, PyData.leavesShortAll, Bool.and_true, Bool.and_eq_true, List.all_eq_true, decide_eq_true_eq, S_get]
    exact ⟨fun c hc => Nat.lt_trans (cokFree c hc) (by decide), fun x hx => Nat.lt_trans ((name_cok h).1 x hx) (by decide)⟩
  | .to a b, h => by
    simp only [Kd.d, PyData.leavesShort, PyData.leavesShortAll, Bool.and_true, Bool.and_eq_true, List.all_eq_true, decide_eq_true_eq, S_get, a.short h.1, b.short h.2, and_self, and_true]
    exact fun c hc => Nat.lt_trans (cokTo c hc) (by decide)
theorem S_size (w : List Nat) : (S w).cps.size = w.length := by simp [SX.S]
theorem Kd.weight : ∀ k : Kd, k.ok → k.d.weight ≤ 30 * k.sz
  | .nm w, h => by
    have c : w.length ≤ 16 := h.elim (fun h => (name_cok h).2) (fun h => by rw [h]; decide)
    simp only [Kd.d, PyData.weight, PyData.weightAll, S_size, Kd.sz]
    show 5 + 1 + (w.length + 1 + 0) ≤ 30 * 1; omega
  | .fr w, h => by
    have c : w.length ≤ 16 := (name_cok h).2
    simp only [Kd.d, PyData.weight, PyData.weightAll, S_size, Kd.sz]
    show 4 + 1 + (w.length + 1 + 0) ≤ 30 * 1; omega
  | .to a b, h => by
    have := a.weight h.1; have := b.weight h.2
    simp only [Kd.d, PyData.weight, PyData.weightAll, S_size, Kd.sz]
    show 2 + 1 + (a.d.weight + 1 + (b.d.weight + 1 + 0)) ≤ 30 * (a.sz + b.sz + 1); omega
theorem Kd.show_ : ∀ k : Kd, k.d.showable = true
  | .nm w => by simp [Kd.d, PyData.showable, PyData.showableAll]
  | .fr w => by simp [Kd.d, PyData.showable, PyData.showableAll]
  | .to a b => by simp [Kd.d, PyData.showable, PyData.showableAll, a.show_, b.show_]
theorem Kd.shown {k : Kd} (h : k.ok) (z : k.sz ≤ 50000) : k.d.shown.length ≤ 16777216 := by
  have h1 := PyData.shown_le 8 (Nat.le_refl _) k.d (k.short h)
  have h2 := k.weight h
  have h3 : (8 + 2) * k.d.weight ≤ (8 + 2) * (30 * k.sz) := Nat.mul_le_mul_left _ h2
  omega
theorem dep_nodes {κ τ : Type} : ∀ t : Tr κ τ, t.dep ≤ t.nodes
  | .app f a => by
    have := dep_nodes f; have := dep_nodes a; have := f.nodes_pos; have := a.nodes_pos
    show max f.dep a.dep + 1 ≤ f.nodes + a.nodes + 1; omega
  | .lam k b => by have := dep_nodes b; show b.dep + 1 ≤ b.nodes + 1; omega
  | .tip _ => Nat.le_refl _
end K02

/-! The plain law of k02: a tree with a bad row is bad. -/
namespace K02
open PySem L2 TL SX
/-- all is known of a row, at any depth -/
def RowK : PRow → Prop
  | .app => True
  | .lam k => ∃ b, KF k b
  | .tip t => ∀ l, l ≤ 100000 → ∃ b, LF t.d l b ∧ (b = true → ∀ s r, t.d = .tuple (.str (S s) :: r) → s ≠ wAPP ∧ s ≠ wLAM)
def RowB : PRow → Prop
  | .app => False
  | .lam k => KF k false
  | .tip t => ∀ l, l ≤ 100000 → LF t.d l false
theorem RowB.k {r : PRow} (h : RowB r) : RowK r := by
  cases r with
  | app => cases h
  | lam k => exact ⟨false, h⟩
  | tip t => exact fun l hl => ⟨false, h l hl, fun z => by cases z⟩
def AKn (t : PTr) : Prop := ∀ l, l + t.dep ≤ 100000 → ∃ b, AK t l b
def AKb (t : PTr) : Prop := ∀ l, l + t.dep ≤ 100000 → AK t l false
theorem bad_fo : ∀ {c : List PRow}, fok c → (∀ r ∈ c, RowK r) → (∀ t ∈ fo c, AKn t ∧ t.dep ≤ c.length) ∧ ((∃ r ∈ c, RowB r) → ∃ t ∈ fo c, AKb t)
  | [], _, _ => ⟨fun t h => (by cases h), fun ⟨r, h, _⟩ => by cases h⟩
  | r :: c, hf, hk => by
    obtain ⟨h1, h2⟩ := bad_fo hf.2 fun r hr => hk r (List.mem_cons_of_mem _ hr)
    have hr := hk r List.mem_cons_self
    have up : ∀ {x : PTr} {ts : List PTr}, (∀ t ∈ ts, AKn t ∧ t.dep ≤ c.length) → AKn x ∧ x.dep ≤ c.length + 1 → ∀ t ∈ x :: ts, AKn t ∧ t.dep ≤ c.length + 1 := fun {x ts} a b t ht => by
      rcases List.mem_cons.mp ht with rfl | ht
      · exact b
      · exact ⟨(a t ht).1, by have := (a t ht).2; omega⟩
    show (∀ t ∈ push1 r (fo c), AKn t ∧ t.dep ≤ c.length + 1) ∧ _
    have hb : (∃ r' ∈ r :: c, RowB r') → (RowB r ∨ ∃ t ∈ fo c, AKb t) := fun ⟨r', hr', hb⟩ => by
      rcases List.mem_cons.mp hr' with rfl | hr'
      · exact .inl hb
      · exact .inr (h2 ⟨r', hr', hb⟩)
    cases r with
    | app =>
      obtain ⟨f, a, ts, e⟩ := two_of (show 2 ≤ (fo c).length from hf.1)
      show (∀ t ∈ push1 .app (fo c), AKn t ∧ t.dep ≤ c.length + 1) ∧ (_ → ∃ t ∈ push1 .app (fo c), AKb t)
      rw [e] at h1 hb ⊢
      have hf' := h1 f (by simp)
      have ha' := h1 a (by simp)
      refine ⟨up (fun t ht => h1 t (by simp [ht])) ⟨fun l hl => ?_, ?_⟩, fun z => ?_⟩
      · have hl : l + (max f.dep a.dep + 1) ≤ 100000 := hl
        obtain ⟨b, hb1⟩ := hf'.1 l (by omega)
        obtain ⟨d, hd1⟩ := ha'.1 l (by omega)
        exact ⟨_, .app hb1 hd1⟩
      · have := hf'.2
        have := ha'.2
        show max f.dep a.dep + 1 ≤ _
        omega
      · rcases hb z with z | ⟨t, ht, hh⟩
        · cases z
        rcases List.mem_cons.mp ht with rfl | ht
        · refine ⟨.app t a, List.mem_cons_self, fun l hl => ?_⟩
          have hl : l + (max t.dep a.dep + 1) ≤ 100000 := hl
          obtain ⟨d, hd1⟩ := ha'.1 l (by omega)
          exact AK.app (hh l (by omega)) hd1
        · rcases List.mem_cons.mp ht with rfl | ht
          · refine ⟨.app f t, List.mem_cons_self, fun l hl => ?_⟩
            have hl : l + (max f.dep t.dep + 1) ≤ 100000 := hl
            obtain ⟨d, hd1⟩ := hf'.1 l (by omega)
            have := AK.app hd1 (hh l (by omega))
            rwa [Bool.and_false] at this
          · exact ⟨t, List.mem_cons_of_mem _ ht, hh⟩
    | lam k =>
      obtain ⟨x, ts, e⟩ := one_of (show 1 ≤ (fo c).length from hf.1)
      show (∀ t ∈ push1 (.lam k) (fo c), AKn t ∧ t.dep ≤ c.length + 1) ∧ (_ → ∃ t ∈ push1 (.lam k) (fo c), AKb t)
      rw [e] at h1 hb ⊢
      have hx := h1 x (by simp)
      refine ⟨up (fun t ht => h1 t (by simp [ht])) ⟨fun l hl => ?_, ?_⟩, fun z => ?_⟩
      · have hl : l + (x.dep + 1) ≤ 100000 := hl
        obtain ⟨b, hb1⟩ := hr
        obtain ⟨d, hd1⟩ := hx.1 (l + 1) (by omega)
        exact ⟨_, .lam hb1 hd1⟩
      · have := hx.2
        show x.dep + 1 ≤ _
        omega
      · rcases hb z with z | ⟨t, ht, hh⟩
        · refine ⟨.lam k x, List.mem_cons_self, fun l hl => ?_⟩
          have hl : l + (x.dep + 1) ≤ 100000 := hl
          obtain ⟨d, hd1⟩ := hx.1 (l + 1) (by omega)
          exact AK.lam z hd1
        · rcases List.mem_cons.mp ht with rfl | ht
          · refine ⟨.lam k t, List.mem_cons_self, fun l hl => ?_⟩
            have hl : l + (t.dep + 1) ≤ 100000 := hl
            obtain ⟨b, hb1⟩ := hr
            have := AK.lam hb1 (hh (l + 1) (by omega))
            rwa [Bool.and_false] at this
          · exact ⟨t, List.mem_cons_of_mem _ ht, hh⟩
    | tip d =>
      refine ⟨up h1 ⟨fun l hl => ?_, ?_⟩, fun z => ?_⟩
      · have hl : l + 1 ≤ 100000 := hl
        obtain ⟨b, hb1, hb2⟩ := hr l (by omega)
        exact ⟨b, .tip hb1 hb2⟩
      · show 1 ≤ c.length + 1
        omega
      · rcases hb z with z | ⟨t, ht, hh⟩
        · refine ⟨.tip d, List.mem_cons_self, fun l hl => ?_⟩
          have hl : l + 1 ≤ 100000 := hl
          exact .tip (z l (by omega)) fun z => by cases z
        · exact ⟨t, List.mem_cons_of_mem _ ht, hh⟩
/-- a code of one tree with a bad row, asked at its root -/
theorem bad_tree {c : List PRow} {t : PTr} (hf : fok c) (e : fo c = [t]) (hk : ∀ r ∈ c, RowK r) (hb : ∃ r ∈ c, RowB r) (hl : c.length ≤ 5000) : AK t 0 false := by
  obtain ⟨h1, h2⟩ := bad_fo hf hk
  obtain ⟨t', ht', hh⟩ := h2 hb
  rw [e] at ht'
  rw [List.mem_singleton.mp ht'] at hh
  have := (h1 t (by rw [e]; exact List.mem_cons_self)).2
  exact hh 0 (by omega)
/-- good rows are known -/
theorem upR_k {r : G2} (h : r.gok) : RowK (upR r) := by
  cases r with
  | app => trivial
  | lam k => exact ⟨true, GK.kf h⟩
  | tip l =>
    intro n _
    refine ⟨_, Lf.lf h n, fun _ s r e => ?_⟩
    obtain ⟨s', r', e', a, b, _⟩ := lf_tip l
    have e : l.d = .tuple (.str (S s) :: r) := e
    rw [e'] at e
    simp only [PyData.tuple.injEq, List.cons.injEq, PyData.str.injEq] at e
    rw [← SX.S_inj e.1]
    exact ⟨a, b⟩
/-- a code with arms is one whose leaves hold it -/
theorem tip_in {κ τ : Type} {c : List (Rw κ τ)} (h : Vc c 1) : ∃ t, Rw.tip t ∈ c := by
  have : ∀ c : List (Rw κ τ), (∀ t, Rw.tip t ∉ c) → fok c → c = [] := by
    intro c
    induction c with
    | nil => intro _ _; rfl
    | cons r c ih =>
      intro h hf
      have e := ih (fun t ht => h t (List.mem_cons_of_mem _ ht)) hf.2
      subst e
      cases r with
      | app => exact absurd hf.1 (by show ¬ 2 ≤ 0; omega)
      | lam k => exact absurd hf.1 (by show ¬ 1 ≤ 0; omega)
      | tip t => exact absurd List.mem_cons_self (h t)
  apply Classical.byContradiction
  intro z
  have e := this c (fun t ht => z ⟨t, ht⟩) h.1
  subst e
  cases h.2
theorem Vc.one {κ τ : Type} {c : List (Rw κ τ)} (h : Vc c 1) : ∃ t, fo c = [t] := by
  obtain ⟨_, h2⟩ := h
  match hh : fo c, h2 with
  | [t], _ => exact ⟨t, rfl⟩
theorem Vc.lams {κ τ : Type} {c : List (Rw κ τ)} (h : Vc c 1) (k : κ) : ∀ n, Vc (List.replicate n (.lam k) ++ c) 1
  | 0 => h
  | n + 1 => Vc.lam (n := 0) (h.lams k n)
end K02

/-! Displays of data, told at one go. -/
namespace L2
open PySem PySem.Spec PyProof.Rows SX TL
/-- te says d, from every heap that keeps what H0 has -/
def Ev (H0 : Hp) (te : TE) (σ : St) (d : PyData) : Prop := ∀ H Q, Same H0 H → (∀ x H', Same H H' → TD H' x d → Q x H') → te σ H Q
def EvA (H0 : Hp) (tA : TA) (σ : St) (ds : List PyData) : Prop := ∀ H Q, Same H0 H → (∀ xs H', Same H H' → TDs H' xs ds → Q xs H') → tA σ H Q
section
variable {H0 H H' : Hp} {σ : St} {d : PyData} {ds : List PyData} {te : TE} {tA : TA} {x : V} {Q : VK} {K : PySem.W.Frag}
theorem Same.refl' (H : Hp) : Same H H := fun _ _ e => e
theorem Same.fresh {p : Addr} (s : Same H H') (z : H' p = none) : H p = none := by
  cases e : H p with
  | none => rfl
  | some o => rw [s p o e] at z; cases z
theorem ev_str {z : Str} : Ev H0 (tC (.str z)) σ (.str z) := fun H Q s k => w_c (k _ _ (Same.refl' H) (.str z))
theorem ev_int {i : Int} : Ev H0 (tC (.int i)) σ (.int i) := fun H Q s k => w_c (k _ _ (Same.refl' H) (.int i))
theorem ev_neg {i : Int} : Ev H0 (tUn (rU fun n => .int (-n)) (tC (.int i))) σ (.int (-i)) := fun H Q s k => w_un (w_c (w_neg (k _ _ (Same.refl' H) (.int (-i)))))
theorem ev_var {i : Nat} (e : σ[i]? = some (some x)) (t : TD H0 x d) : Ev H0 (tVar i) σ d := fun H Q s k => w_var e (k _ _ (Same.refl' H) (t.tm (Tm.same s)))
theorem eva_nil : EvA H0 tNil σ [] := fun H Q s k => w_nil (k _ _ (Same.refl' H) .nil)
theorem eva_cons (h : Ev H0 te σ d) (j : EvA H0 tA σ ds) : EvA H0 (tCons te tA) σ (d :: ds) := fun H Q s k => w_cons (h H _ s fun x H1 s1 t1 => j H1 _ (s.tr s1) fun xs H2 s2 t2 => k _ _ (s1.tr s2) (.cons (t1.tm (Tm.same s2)) t2))
theorem ev_tup (h : EvA H0 tA σ ds) (hl : ds.length ≤ 4096 := by exact Nat.le_of_ble_eq_true rfl) : Ev H0 (tTup tA) σ (.tuple ds) := fun H Q s k => w_tupN (h H _ s fun xs H1 s1 t1 => t_new t1 (fun p H2 h2 s2 t2 => k _ _ (s1.tr s2) t2) (by rw [t1.len]; exact hl))
theorem ev_lst (h : EvA H tA σ ds) (k : ∀ p H', H p = none → Same H H' → DL H' p ds → Q (.ref p) H') (hl : ds.length ≤ 4096 := by exact Nat.le_of_ble_eq_true rfl) : tLst tA σ H Q :=
  w_lstN (h H _ (Same.refl' H) fun xs H1 s1 t1 => l_new t1 (fun p H2 h2 s2 t2 => k _ _ (s1.fresh h2) (s1.tr s2) t2) (by rw [t1.len]; exact hl))
theorem ev_go (h : Ev H te σ d) (k : ∀ x H', Same H H' → TD H' x d → Q x H') : te σ H Q := h H Q (Same.refl' H) k
end
end L2

namespace K02
open PySem PySem.Spec PyProof.Rows L2 SX
local macro_rules | `(tactic| walk_at "w1") => `(tactic| (first
  | with_reducible refine w_seq ?_ | with_reducible refine w_asgN ?_ | with_reducible refine w_c ?_
  | ((with_reducible refine' w_var ?wv ?_); (case wv => exact rfl))
  | with_reducible refine w_op ?_ | with_reducible refine w_un ?_ | with_reducible refine w_next ?_ | with_reducible refine w_brk ?_ | with_reducible refine w_cnt ?_
  | with_reducible refine w_ifS ?_ | with_reducible refine w_if ?_ | with_reducible refine w_test ?_ | with_reducible refine w_tB ?_ | with_reducible refine w_bl ?_ | with_reducible refine w_blI ?_
  | with_reducible refine w_and ?_ | with_reducible refine w_or ?_ | with_reducible refine w_not ?_ | with_reducible refine w_andV ?_ | with_reducible refine w_orV ?_ | with_reducible refine w_notV ?_
  | with_reducible refine w_nil ?_ | with_reducible refine w_cons ?_ | with_reducible refine w_cb ?_ | with_reducible refine w_call ?_ | with_reducible refine w_callS ?_ | with_reducible refine w_chain ?_
  | with_reducible refine w_tupN ?_ | with_reducible refine w_lstN ?_ | with_reducible refine w_sl ?_ | with_reducible refine w_noPart ?_ | with_reducible refine w_part ?_ | with_reducible refine w_partI ?_
  | with_reducible refine w_ret ?_ | with_reducible refine w_retN ?_ | with_reducible refine w_drop ?_ | with_reducible refine w_asg ?_ | with_reducible refine w_gSub ?_
  | ((with_reducible refine' w_aug ?wv ?_); (case wv => exact rfl)) | with_reducible refine w_ipI ?_
  | with_reducible refine w_addI ?_ | with_reducible refine w_subI ?_ | with_reducible refine w_ltI ?_ | with_reducible refine w_leI ?_ | with_reducible refine w_gtI ?_ | with_reducible refine w_geI ?_
  | with_reducible refine w_eqI ?_ | with_reducible refine w_neI ?_ | with_reducible refine w_eqT ?_ | with_reducible refine w_neT ?_ | with_reducible refine w_inS ?_ | with_reducible refine w_ninS ?_
  | with_reducible refine w_absI ?_ | with_reducible refine w_intI ?_ | with_reducible refine w_maxI ?_ | with_reducible refine w_minI ?_
  | with_reducible refine w_for ?_ | with_reducible refine w_iR1 ?_ | with_reducible refine w_iR2 ?_ | with_reducible refine w_iStr ?_ | with_reducible refine w_strI ?_ | with_reducible refine w_iList ?_ | with_reducible refine w_iTup ?_
  | with_reducible refine w_bm ?_ | with_reducible refine w_bm0 ?_ | with_reducible refine w_t ?_ | with_reducible refine w_f ?_ | with_reducible refine w_nt ?_ | with_reducible refine w_nx ?_ | with_reducible refine w_rt ?_ | with_reducible refine w_bk ?_ | with_reducible refine w_ct ?_ | with_reducible refine w_nf ?_ | with_reducible refine w_lc ?_ | with_reducible refine w_yes ?_ | with_reducible refine w_neg ?_ | with_reducible refine w_intB ?_ | with_reducible refine w_fld ?_ | with_reducible refine w_setf ?_ | with_reducible refine w_faug ?_ | with_reducible refine w_meth ?_ | with_reducible refine w_bmS ?_ | with_reducible refine w_start ?_ | with_reducible refine w_revL ?_ | with_reducible refine w_iR3 ?_))
local macro_rules | `(tactic| walk_at "w") => `(tactic| (repeat (first | walk_at "w1" | dsimp (config := { proj := false }) only [List.set_cons_zero, List.set_cons_succ])))
section
variable {w : World} {K : PySem.W.Frag} {mg : Str → Option Value} {base : Heap}

theorem w_iR3 {σ : L2.St} {H : Hp} {tA : TA} {R : It → Hp → Prop} (h : tA σ H fun vs H1 => ∃ (i j c : Int) (n : Nat), vs = [.int i, .int j, .int c] ∧ RgC i j c n ∧ R (Itc i c n) H1) : iRng3 tA σ H R := h
theorem szl {n m : Nat} (h : n ≤ m) (hm : m ≤ 16777216 := by omega) : n ≤ sizeLine := by rw [sizeLine_eq]; omega
theorem tl_let : (Str.ofString "abcdefghijklmnopqrstuvwxyz").cps.toList = LET := by decide +kernel
theorem tl_ws : (Str.ofString "abcdefghijklmnopqrstuvwxyz0123456789_").cps.toList = WS := by decide +kernel
theorem tb_res (K : PySem.W.Frag) : tb_RESERVED.map (He.Dv.v K) = RES.map fun r => V.str (S r) := by
  show [V.str _, V.str _, V.str _, V.str _, V.str _, V.str _] = [V.str _, V.str _, V.str _, V.str _, V.str _, V.str _]
  decide +kernel
theorem kit_str {K : PySem.W.Frag} {d : PyData} (h : tyOf d ≠ "str") : PySem.W.kitOne K (.type (tyOf d)) (.type "str") = some false := by
  cases d with
  | none => show PySem.W.kitOne K (.type "NoneType") (.type "str") = some false; exact kit_ty (by decide +kernel)
  | bool b => show PySem.W.kitOne K (.type "bool") (.type "str") = some false; exact kit_ty (by decide +kernel)
  | int b => show PySem.W.kitOne K (.type "int") (.type "str") = some false; exact kit_ty (by decide +kernel)
  | str b => exact absurd rfl h
  | list b => show PySem.W.kitOne K (.type "list") (.type "str") = some false; exact kit_ty (by decide +kernel)
  | tuple b => show PySem.W.kitOne K (.type "tuple") (.type "str") = some false; exact kit_ty (by decide +kernel)
  | dict b => show PySem.W.kitOne K (.type "dict") (.type "str") = some false; exact kit_ty (by decide +kernel)
theorem kit_tup {K : PySem.W.Frag} {d : PyData} (h : tyOf d ≠ "tuple") : PySem.W.kitOne K (.type (tyOf d)) (.type "tuple") = some false := by
  cases d with
  | none => show PySem.W.kitOne K (.type "NoneType") (.type "tuple") = some false; exact kit_ty (by decide +kernel)
  | bool b => show PySem.W.kitOne K (.type "bool") (.type "tuple") = some false; exact kit_ty (by decide +kernel)
  | int b => show PySem.W.kitOne K (.type "int") (.type "tuple") = some false; exact kit_ty (by decide +kernel)
  | str b => show PySem.W.kitOne K (.type "str") (.type "tuple") = some false; exact kit_ty (by decide +kernel)
  | list b => show PySem.W.kitOne K (.type "list") (.type "tuple") = some false; exact kit_ty (by decide +kernel)
  | tuple b => exact absurd rfl h
  | dict b => show PySem.W.kitOne K (.type "dict") (.type "tuple") = some false; exact kit_ty (by decide +kernel)
theorem kit_int {K : PySem.W.Frag} {d : PyData} (h : tyOf d ≠ "int") (h2 : tyOf d ≠ "bool") : PySem.W.kitOne K (.type (tyOf d)) (.type "int") = some false := by
  cases d with
  | none => show PySem.W.kitOne K (.type "NoneType") (.type "int") = some false; exact kit_ty (by decide +kernel)
  | bool b => exact absurd rfl h2
  | int b => exact absurd rfl h
  | str b => show PySem.W.kitOne K (.type "str") (.type "int") = some false; exact kit_ty (by decide +kernel)
  | list b => show PySem.W.kitOne K (.type "list") (.type "int") = some false; exact kit_ty (by decide +kernel)
  | tuple b => show PySem.W.kitOne K (.type "tuple") (.type "int") = some false; exact kit_ty (by decide +kernel)
  | dict b => show PySem.W.kitOne K (.type "dict") (.type "int") = some false; exact kit_ty (by decide +kernel)
def sp_is_name : Sp := sp1 fun a H Q _ => (∃ l : List Nat, a = .str (S l) ∧ l.length ≤ 100000 ∧ Q (.bl (isName l)) H) ∨ ∃ d, TD H a d ∧ tyOf d ≠ "str" ∧ Q (.bl false) H
theorem ok_is_name (T : Txt w K mg) {fd : FuncData} (F : Fn_is_name K fd) (hm : mg "is_name" = some (.ref (He.ga K "is_name")))  : CalX P w K mg base CX0 1 "is_name" sp_is_name := by
  refine calx0 (k := 0) F hm sc_is_name (b_is_name F) (fun _ _ _ _ h => sp1_len h) (fun cdv A outer s H vs Q E hr h => ?_)
  obtain ⟨x0, rfl, h⟩ := h
  refine ⟨_, (pss_cons (ps_if (PW.pt (pw_or (pt_not (pt_val (pe_callB call_isi (by rfl) T.f_isinstance (by decide +kernel) (pa_cons (pv 0) (pa_cons (pe_bltn (v := .ty "str") (by rfl) T.f_str (by decide +kernel) rfl) pa_nil))))) (pw_or1 (pt_not (pt_chain op_leI op_leI pe_int (pe_callB call_lenT (by rfl) T.f_len PySem.boot_len (pa_cons (pv 0) pa_nil)) (pe_gv T.v_NAME_LENGTH))))))
    (pss_one (ps_ret pe_bl))
    pss_nil)
    (pss_cons (ps_if (PW.pt (pw_or (pt_cmpR op_in_seq (pv 0) (pe_gv T.v_RESERVED) rfl) (pw_or1 (pt_cmpR op_notInC (pe_ix ix_str (pv 0) pe_int (fun _ _ => rfl)) (pe_gv T.v_LETTERS) rfl))))
    (pss_one (ps_ret pe_bl))
    pss_nil)
    (pss_cons (ps_for PassesOwn.never rfl (pi_str (pv 0)) (pg_name (i := 1) sc_is_name.nd rfl (Or.inl rfl))
    (pss_one (ps_if (pt_cmpR op_notInC (pv 1) (pe_gv T.v_NAME_SIGNS) rfl)
    (pss_one (ps_ret pe_bl))
    pss_nil)))
    (pss_one (ps_ret pe_bl))))), ?_⟩
  rw [show start ["word", "sign"] [x0] = [some x0, none] from rfl]
  rcases h with ⟨l, rfl, hl, hQ⟩ | ⟨d, hd, hs, hQ⟩
  rotate_left
  · rw [S_ofs tl_let, S_ofs tl_ws]
    dsimp only [cxOf]
    walk_at "w"
    refine w_isi hd.ty (kit_str hs) ?_
    walk_at "w"
    exact hQ
  have hz : l.length ≤ sizeLine := Nat.le_trans hl (by decide)
  have no : isName l = false → Q (.bl false) H := fun e => e ▸ hQ
  rw [S_ofs tl_let, S_ofs tl_ws]
  dsimp only [cxOf]
  walk_at "w"
  refine w_isi (.base (.str _)) kit_ss ?_
  walk_at "w"
  refine w_lenS hz ?_
  walk_at "w"
  refine w_dec (fun h1 => ?_) (fun h1 => ?_)
  · walk_at "w"
    refine w_ndec (fun h2 => ?_) (fun h2 => ?_)
    · walk_at "w"
      exact no (by unfold isName; exact decide_eq_false fun z => h2 (by have := z.1.2; omega))
    walk_at "w"
    refine w_inTab (T.t_RESERVED _) (tb_res K) ?_
    walk_at "w"
    refine w_dec (fun h3 => ?_) (fun h3 => ?_)
    · walk_at "w"
      exact no (by unfold isName; exact decide_eq_false fun z => z.2.1 h3)
    walk_at "w"
    obtain ⟨c, hc⟩ : ∃ c, l[0]? = some c := by
      cases l with
      | nil => simp at h1
      | cons c r => exact ⟨c, rfl⟩
    refine w_ixS (n := 0) hz hc ?_
    walk_at "w"
    refine w_ndec (fun h4 => ?_) (fun h4 => ?_)
    · walk_at "w"
      refine no ?_
      unfold isName
      refine decide_eq_false fun z => ?_
      obtain ⟨c', hc', h5⟩ := z.2.2.1
      rw [hc] at hc'; cases hc'
      exact h4 h5
    walk_at "w"
    refine for_str (fun i σ H' => H' = H ∧ (∃ v, σ = [some (.str (S l)), v]) ∧ ∀ j, j < i → ∀ c, l[j]? = some c → c ∈ WS) ⟨rfl, ⟨_, rfl⟩, fun j hj => absurd hj (Nat.not_lt_zero _)⟩ ?_ ?_
    · rintro i d σ H' hd ⟨rfl, ⟨v, rfl⟩, hj⟩
      dsimp only [gName]
      walk_at "w"
      refine w_ndec (fun h5 => ?_) (fun h5 => ?_)
      · walk_at "w"
        exact no (by unfold isName; exact decide_eq_false fun z => h5 (z.2.2.2 d (List.mem_of_getElem? hd)))
      · walk_at "w"
        refine ⟨rfl, ⟨_, rfl⟩, fun j hj' c hc' => ?_⟩
        by_cases e : j = i
        · subst e; rw [hd] at hc'; cases hc'; exact h5
        · exact hj j (by omega) c hc'
    · rintro σ H' ⟨rfl, ⟨v, rfl⟩, hj⟩
      walk_at "w"
      have e : isName l = true := by
        unfold isName
        refine decide_eq_true ⟨⟨by omega, by omega⟩, h3, ⟨c, hc, h4⟩, fun d hd => ?_⟩
        obtain ⟨j, hj1, hj2⟩ := List.getElem_of_mem hd
        exact hj j hj1 d (by rw [List.getElem?_eq_getElem hj1, hj2])
      rw [e] at hQ
      exact hQ
  · walk_at "w"
    exact no (by unfold isName; exact decide_eq_false fun z => h1 (by have := z.1.1; omega))

/-! ### the pot -/
def Pot (a : Addr) (H : Hp) : Prop := ∃ r s c : Int, H a = some (.lst [.int r, .int s, .int c]) ∧ 0 ≤ r ∧ 0 ≤ s ∧ s < 2147483647
theorem Pot.same {a : Addr} {H H' : Hp} (h : Pot a H) (k : Same H H') : Pot a H' := by
  obtain ⟨r, s, c, h1, h2⟩ := h; exact ⟨r, s, c, k _ _ h1, h2⟩
theorem Pot.lst {a : Addr} {H : Hp} (h : Pot a H) : ∃ xs, H a = some (.lst xs) := by obtain ⟨r, s, c, h1, h2⟩ := h; exact ⟨_, h1⟩
theorem Pot.ex {a p : Addr} {H H' : Hp} (h : Pot a H) (x : Ex p H H') (n : a ≠ p) : Pot a H' := by
  obtain ⟨r, s, c, h1, h2⟩ := h; exact ⟨r, s, c, by rw [x a n]; exact h1, h2⟩
theorem Pot.ne {a p : Addr} {H : Hp} (h : Pot a H) (hp : H p = none) : p ≠ a := fun z => by
  obtain ⟨r, s, c, h1, h2⟩ := h; subst z; rw [h1] at hp; cases hp
theorem Kb.none {a p : Addr} {H H' : Hp} (k : Kb a H H') (h : Pot a H') (hp : H' p = none) : H p = none := by
  cases e : H p with
  | none => rfl
  | some o => rw [k p o (h.ne hp) e] at hp; cases hp
theorem Kb.pot_tm {a : Addr} {H H' : Hp} (h : Pot a H) (k : Kb a H H') : Tm H H' := let ⟨_, e⟩ := h.lst; k.tm e
theorem DLkb {a p : Addr} {H H' : Hp} {ds : List PyData} (d : DL H p ds) (h : Pot a H) (k : Kb a H H') (n : p ≠ a) : DL H' p ds := let ⟨_, e⟩ := h.lst; d.kb k n e
def sp_law_pot (K : PySem.W.Frag) : Sp := sp2 fun x y H Q _ => ∃ (a : Addr) (ns : List Int) (k : Nat), x = .ref a ∧ y = .int (k : Int) ∧ SqL K H a (ns.map V.int) ∧ ns.length ≤ 63 ∧ k ≤ 63 ∧ ∀ p H', H p = none → Same H H' → Pot p H' → Q (.ref p) H'
theorem ten18 : ((10 : Int) ^ (18 : Int).toNat) = 1000000000000000000 := by decide +kernel
theorem pow10 : CPowN 10 18 := ⟨by decide, by decide +kernel⟩
theorem ok_law_pot (T : Txt w K mg) {fd : FuncData} (F : Fn_law_pot K fd) (hm : mg "_law_pot" = some (.ref (He.ga K "_law_pot")))  : CalX P w K mg base CX0 1 "_law_pot" (sp_law_pot K) := by
  refine calx0 (k := 0) F hm sc_law_pot (b_law_pot F) (fun _ _ _ _ h => sp2_len h) (fun cdv A outer s H vs Q E hr h => ?_)
  obtain ⟨x0, x1, rfl, h⟩ := h
  refine ⟨_, (pss_cons (ps_set (i := 2) sc_law_pot.nd rfl (Or.inl rfl) pe_int)
    (Evl.pss_cut (ps_if (pt_cmpR op_ltI (pv 1) (pe_callB call_lenQ (by rfl) T.f_len PySem.boot_len (pa_cons (pv 0) pa_nil)) (nomark _))
    (pss_one (ps_set (i := 2) sc_law_pot.nd rfl (Or.inl rfl) (pe_callB call_absI (by rfl) T.f_abs (by decide +kernel) (pa_cons (pe_ix ix_list (pv 0) (pv 1) (fun _ _ => rfl)) pa_nil))))
    pss_nil)
    (pss_cons (ps_set (i := 3) sc_law_pot.nd rfl (Or.inl rfl) pe_int)
    (Evl.pss_cut (ps_if (pt_cmpR op_geI (pv 2) (pe_op op_powN pe_int pe_int) (nomark _))
    (pss_one (ps_set (i := 3) sc_law_pot.nd rfl (Or.inl rfl) (pv 2)))
    pss_nil)
    (pss_one (ps_ret (pe_lst (pa_cons (pv 3) (pa_cons (pe_op op_modI (pe_callTy call_intI (by rfl) T.f_int (by decide +kernel) (pa_cons (pe_op op_addI (pe_op op_addI (pv 2) (pe_op op_mulI pe_int (pv 1))) pe_int) pa_nil)) pe_int) (pa_cons pe_int pa_nil)))))))))), ?_⟩
  rw [show start ["script", "k", "cell", "rest"] [x0, x1] = [some x0, some x1, none, none] from rfl]
  obtain ⟨a, ns, k, rfl, rfl, hS, hn, hk, hQ⟩ := h
  try dsimp only [cxOf]
  walk_at "w"
  refine w_mid (fun σ H' => H' = H ∧ ∃ c : Int, 0 ≤ c ∧ σ = [some (.ref a), some (.int (k : Int)), some (.int c), none]) ?_ ?_
  · walk_at "w"
    refine w_lenL hS ?_
    rw [List.length_map]
    walk_at "w"
    refine w_dec (fun h1 => ?_) (fun h1 => ?_)
    · walk_at "w"
      have hk' : k < ns.length := by omega
      have hc : (ns.map V.int)[k]? = some (.int ns[k]) := by rw [List.getElem?_map, List.getElem?_eq_getElem hk']; rfl
      refine w_ixL hS hc ?_
      walk_at "w"
      exact ⟨rfl, _, by split <;> omega, rfl⟩
    · walk_at "w"
      exact ⟨rfl, 0, by omega, rfl⟩
  rintro σ H' ⟨rfl, c, hc, rfl⟩
  walk_at "w"
  refine w_mid (fun σ H1 => H1 = H' ∧ ∃ r : Int, 0 ≤ r ∧ σ = [some (.ref a), some (.int (k : Int)), some (.int c), some (.int r)]) ?_ ?_
  · walk_at "w"
    refine w_powN pow10 ?_
    rw [ten18]
    walk_at "w"
    refine w_dec (fun h1 => ?_) (fun h1 => ?_)
    · walk_at "w"
      exact ⟨rfl, c, hc, rfl⟩
    · walk_at "w"
      exact ⟨rfl, 0, by omega, rfl⟩
  rintro σ H1 ⟨rfl, r, hr0, rfl⟩
  walk_at "w"
  refine w_mulI (.inr (by omega)) ?_
  walk_at "w"
  refine w_modI (by omega) ?_
  walk_at "w"
  refine n_L (fun p H2 hp s e => ?_)
  exact hQ p H2 hp s ⟨_, _, _, e, hr0, Int.emod_nonneg _ (by omega), Int.emod_lt_of_pos _ (by omega)⟩

def sp_law_take : Sp := sp2 fun x y H Q _ => ∃ (a : Addr) (m : Nat), x = .ref a ∧ y = .int (m : Int) ∧ 0 < m ∧ m < 1000000 ∧ Pot a H ∧ ∀ (v : Nat) H', v < m → Pot a H' → Kb a H H' → Q (.int v) H'
theorem ok_law_take (T : Txt w K mg) {fd : FuncData} (F : Fn_law_take K fd) (hm : mg "_law_take" = some (.ref (He.ga K "_law_take")))  : CalX P w K mg base CX0 1 "_law_take" sp_law_take := by
  refine calx0 (k := 0) F hm sc_law_take (b_law_take F) (fun _ _ _ _ h => sp2_len h) (fun cdv A outer s H vs Q E hr h => ?_)
  obtain ⟨x0, x1, rfl, h⟩ := h
  refine ⟨_, (pss_cons (ps_asg (pe_op op_addI (pe_ix ix_list (pv 0) pe_int (fun _ _ => rfl)) pe_int) (pg_sub (pv 0) pe_int set_list))
    (pss_cons (ps_if (pt_cmpR op_gtI (pe_ix ix_list (pv 0) pe_int (fun _ _ => rfl)) pe_int (nomark _))
    (pss_cons (ps_set (i := 2) sc_law_take.nd rfl (Or.inl rfl) (pe_op op_modI (pe_callTy call_intI (by rfl) T.f_int (by decide +kernel) (pa_cons (pe_ix ix_list (pv 0) pe_int (fun _ _ => rfl)) pa_nil)) (pv 1)))
    (pss_cons (ps_asg (pe_op op_divI (pe_ix ix_list (pv 0) pe_int (fun _ _ => rfl)) (pv 1)) (pg_sub (pv 0) pe_int set_list))
    (pss_one (ps_ret (pv 2)))))
    pss_nil)
    (pss_cons (ps_set (i := 3) sc_law_take.nd rfl (Or.inl rfl) (pe_op op_modI (pe_callTy call_intI (by rfl) T.f_int (by decide +kernel) (pa_cons (pe_op op_addI (pe_op op_mulI (pe_ix ix_list (pv 0) pe_int (fun _ _ => rfl)) pe_int) (pe_op op_mulI (pe_ix ix_list (pv 0) pe_int (fun _ _ => rfl)) pe_int)) pa_nil)) pe_int))
    (pss_cons (ps_set (i := 3) sc_law_take.nd rfl (Or.inl rfl) (pe_op op_modI (pe_callTy call_intI (by rfl) T.f_int (by decide +kernel) (pa_cons (pe_op op_addI (pe_op op_mulI (pv 3) (pv 3)) (pe_op op_mulI (pe_ix ix_list (pv 0) pe_int (fun _ _ => rfl)) pe_int)) pa_nil)) pe_int))
    (pss_cons (ps_set (i := 3) sc_law_take.nd rfl (Or.inl rfl) (pe_op op_modI (pe_callTy call_intI (by rfl) T.f_int (by decide +kernel) (pa_cons (pe_op op_addI (pe_op op_mulI (pv 3) (pv 3)) (pe_op op_divI (pv 3) pe_int)) pa_nil)) pe_int))
    (pss_one (ps_ret (pe_op op_modI (pe_callTy call_intI (by rfl) T.f_int (by decide +kernel) (pa_cons (pe_op op_divI (pv 3) pe_int) pa_nil)) (pv 1))))))))), ?_⟩
  rw [show start ["pot", "many", "digit", "mixed"] [x0, x1] = [some x0, some x1, none, none] from rfl]
  obtain ⟨a, m, rfl, rfl, hm, hm2, ⟨r, s0, c, h1, hr0, hs0, hs1⟩, hQ⟩ := h
  have b1 : ∀ a b : Int, 0 < b → 0 ≤ a % b ∧ a % b < b := fun a b h => ⟨Int.emod_nonneg _ (by omega), Int.emod_lt_of_pos _ h⟩
  have fin : ∀ (v : Int) H' (r c : Int), 0 ≤ v → v < m → H' a = some (.lst [.int r, .int s0, .int c]) → 0 ≤ r → Kb a H H' → Q (.int v) H' := fun v H' r c z1 z2 e hr0 k => by
    have e1 : ((v.toNat : Nat) : Int) = v := Int.toNat_of_nonneg z1
    have z := hQ v.toNat H' (by omega) ⟨r, s0, c, e, hr0, hs0, hs1⟩ k
    rw [e1] at z; exact z
  have kb : ∀ {H1 : Hp} {o : HO}, Kb a H H1 → Kb a H (upd H1 a o) := fun k b o n e => by rw [upd_ne n]; exact k b o n e
  try dsimp only [cxOf]
  walk_at "w"
  refine w_ixL (n := 2) (SqL.of h1) rfl ?_
  walk_at "w"
  refine w_setL (k := 2) h1 (Nat.le_of_ble_eq_true rfl) ?_
  walk_at "w"
  have g1 : upd H a (.lst [.int r, .int s0, .int (c + 1)]) a = some (.lst [.int r, .int s0, .int (c + 1)]) := upd_same
  have k1 : Kb a H (upd H a (.lst [.int r, .int s0, .int (c + 1)])) := kb (Kb.refl _ _)
  generalize upd H a (.lst [.int r, .int s0, .int (c + 1)]) = H1 at g1 k1 ⊢
  walk_at "w"
  refine w_ixL (n := 0) (SqL.of g1) rfl ?_
  walk_at "w"
  refine w_dec (fun q1 => ?_) (fun q1 => ?_)
  · walk_at "w"
    refine w_ixL (n := 0) (SqL.of g1) rfl ?_
    walk_at "w"
    refine w_modI (by omega) ?_
    walk_at "w"
    refine w_ixL (n := 0) (SqL.of g1) rfl ?_
    walk_at "w"
    refine w_divI ⟨by omega, by omega⟩ ?_
    walk_at "w"
    refine w_setL (k := 0) g1 (Nat.le_of_ble_eq_true rfl) ?_
    walk_at "w"
    have := b1 r m (by omega)
    exact fin _ _ (r / m) (c + 1) this.1 this.2 upd_same (Int.ediv_nonneg hr0 (by omega)) (kb k1)
  walk_at "w"
  refine w_ixL (n := 1) (SqL.of g1) rfl ?_
  walk_at "w"
  refine w_mulI (.inr (by omega)) ?_
  walk_at "w"
  refine w_ixL (n := 2) (SqL.of g1) rfl ?_
  walk_at "w"
  refine w_mulI (.inr (by omega)) ?_
  walk_at "w"
  refine w_modI (by omega) ?_
  walk_at "w"
  have z1 := b1 (s0 * 48271 + (c + 1) * 69621) 2147483647 (by omega)
  generalize (s0 * 48271 + (c + 1) * 69621) % 2147483647 = f1 at z1 ⊢
  refine w_mulI (.inl ⟨by omega, by omega⟩) ?_
  walk_at "w"
  refine w_ixL (n := 2) (SqL.of g1) rfl ?_
  walk_at "w"
  refine w_mulI (.inr (by omega)) ?_
  walk_at "w"
  refine w_modI (by omega) ?_
  walk_at "w"
  have z2 := b1 (f1 * f1 + (c + 1) * 16807) 2147483629 (by omega)
  generalize (f1 * f1 + (c + 1) * 16807) % 2147483629 = f2 at z2 ⊢
  refine w_mulI (.inl ⟨by omega, by omega⟩) ?_
  walk_at "w"
  refine w_divI ⟨by omega, by omega⟩ ?_
  walk_at "w"
  refine w_modI (by omega) ?_
  walk_at "w"
  refine w_divI ⟨by omega, by omega⟩ ?_
  walk_at "w"
  refine w_modI (by omega) ?_
  walk_at "w"
  have := b1 ((f2 * f2 + f2 / 4096) % 2147483587 / 64) m (by omega)
  exact fin _ _ r (c + 1) this.1 this.2 g1 hr0 k1
end
end K02

namespace K02
open PySem PySem.Spec PyProof.Rows L2 SX
local macro_rules | `(tactic| walk_at "w1") => `(tactic| (first
  | with_reducible refine w_seq ?_ | with_reducible refine w_asgN ?_ | with_reducible refine w_c ?_
  | ((with_reducible refine' w_var ?wv ?_); (case wv => exact rfl))
  | with_reducible refine w_op ?_ | with_reducible refine w_un ?_ | with_reducible refine w_next ?_ | with_reducible refine w_brk ?_ | with_reducible refine w_cnt ?_
  | with_reducible refine w_ifS ?_ | with_reducible refine w_if ?_ | with_reducible refine w_test ?_ | with_reducible refine w_tB ?_ | with_reducible refine w_bl ?_ | with_reducible refine w_blI ?_
  | with_reducible refine w_and ?_ | with_reducible refine w_or ?_ | with_reducible refine w_not ?_ | with_reducible refine w_andV ?_ | with_reducible refine w_orV ?_ | with_reducible refine w_notV ?_
  | with_reducible refine w_nil ?_ | with_reducible refine w_cons ?_ | with_reducible refine w_cb ?_ | with_reducible refine w_call ?_ | with_reducible refine w_callS ?_ | with_reducible refine w_chain ?_
  | with_reducible refine w_tupN ?_ | with_reducible refine w_lstN ?_ | with_reducible refine w_sl ?_ | with_reducible refine w_noPart ?_ | with_reducible refine w_part ?_ | with_reducible refine w_partI ?_
  | with_reducible refine w_ret ?_ | with_reducible refine w_retN ?_ | with_reducible refine w_drop ?_ | with_reducible refine w_asg ?_ | with_reducible refine w_gSub ?_
  | ((with_reducible refine' w_aug ?wv ?_); (case wv => exact rfl)) | with_reducible refine w_ipI ?_
  | with_reducible refine w_addI ?_ | with_reducible refine w_subI ?_ | with_reducible refine w_ltI ?_ | with_reducible refine w_leI ?_ | with_reducible refine w_gtI ?_ | with_reducible refine w_geI ?_
  | with_reducible refine w_eqI ?_ | with_reducible refine w_neI ?_ | with_reducible refine w_eqT ?_ | with_reducible refine w_neT ?_ | with_reducible refine w_inS ?_ | with_reducible refine w_ninS ?_
  | with_reducible refine w_absI ?_ | with_reducible refine w_intI ?_ | with_reducible refine w_maxI ?_ | with_reducible refine w_minI ?_
  | with_reducible refine w_for ?_ | with_reducible refine w_iR1 ?_ | with_reducible refine w_iR2 ?_ | with_reducible refine w_iStr ?_ | with_reducible refine w_strI ?_ | with_reducible refine w_iList ?_ | with_reducible refine w_iTup ?_
  | with_reducible refine w_bm ?_ | with_reducible refine w_bm0 ?_ | with_reducible refine w_t ?_ | with_reducible refine w_f ?_ | with_reducible refine w_nt ?_ | with_reducible refine w_nx ?_ | with_reducible refine w_rt ?_ | with_reducible refine w_bk ?_ | with_reducible refine w_ct ?_ | with_reducible refine w_nf ?_ | with_reducible refine w_lc ?_ | with_reducible refine w_yes ?_ | with_reducible refine w_neg ?_ | with_reducible refine w_intB ?_ | with_reducible refine w_fld ?_ | with_reducible refine w_setf ?_ | with_reducible refine w_faug ?_ | with_reducible refine w_meth ?_ | with_reducible refine w_bmS ?_ | with_reducible refine w_start ?_ | with_reducible refine w_revL ?_ | with_reducible refine w_iR3 ?_))
local macro_rules | `(tactic| walk_at "w") => `(tactic| (repeat (first | walk_at "w1" | dsimp (config := { proj := false }) only [List.set_cons_zero, List.set_cons_succ])))
section
variable {w : World} {K : PySem.W.Frag} {mg : Str → Option Value} {base : Heap}

/-- shaped as a name -/
def NSh (l : List Nat) : Prop := (1 ≤ l.length ∧ l.length ≤ 16) ∧ (∃ c, l[0]? = some c ∧ c ∈ LET) ∧ ∀ c ∈ l, c ∈ WS
def WS2 : List Nat := LET ++ [95,48,49,50,51,52,53,54,55,56,57]
theorem ws2 {c : Nat} (h : c ∈ WS2) : c ∈ WS := by
  have : ∀ c ∈ WS2, c ∈ WS := by decide
  exact this c h
theorem let_ws {c : Nat} (h : c ∈ LET) : c ∈ WS := List.mem_append_left _ h
theorem let_cat : S LET ++ S [95,48,49,50,51,52,53,54,55,56,57] = S WS2 := S_app _ _
theorem res_vs : ([.str (S [97,108,108]), .str (S [115,111,109,101]), .str (S [108,97,109]), .str (S [116,114,117,101]), .str (S [102,97,108,115,101]), .str (S [98,111,111,108])] : List V) = RES.map fun r => V.str (S r) := rfl
def sp_law_mended : Sp := sp1 fun a H Q _ => ∃ l : List Nat, a = .str (S l) ∧ NSh l ∧ ∀ l' H', isName l' = true → Same H H' → Q (.str (S l')) H'
theorem ok_law_mended (T : Txt w K mg) {fd : FuncData} (F : Fn_law_mended K fd) (hm : mg "_law_mended" = some (.ref (He.ga K "_law_mended")))  : CalX P w K mg base CX0 1 "_law_mended" sp_law_mended := by
  refine calx0 (k := 0) F hm sc_law_mended (b_law_mended F) (fun _ _ _ _ h => sp1_len h) (fun cdv A outer s H vs Q E hr h => ?_)
  obtain ⟨x0, rfl, h⟩ := h
  refine ⟨_, (pss_cons (ps_if (pt_cmpR op_in_seq (pv 0) (pe_lst (pa_cons pe_str (pa_cons pe_str (pa_cons pe_str (pa_cons pe_str (pa_cons pe_str (pa_cons pe_str pa_nil))))))) rfl)
    (pss_one (ps_ret (pe_op op_catS (pv 0) pe_str)))
    pss_nil)
    (pss_one (ps_ret (pv 0)))), ?_⟩
  rw [show start ["word"] [x0] = [some x0] from rfl]
  have ec0 : Str.ofString "all" = S [97,108,108] := S_ofs (by decide +kernel)
  have ec1 : Str.ofString "some" = S [115,111,109,101] := S_ofs (by decide +kernel)
  have ec2 : Str.ofString "lam" = S [108,97,109] := S_ofs (by decide +kernel)
  have ec3 : Str.ofString "true" = S [116,114,117,101] := S_ofs (by decide +kernel)
  have ec4 : Str.ofString "false" = S [102,97,108,115,101] := S_ofs (by decide +kernel)
  have ec5 : Str.ofString "bool" = S [98,111,111,108] := S_ofs (by decide +kernel)
  have ec6 : Str.ofString "0" = S [48] := S_ofs (by decide +kernel)
  rw [ec0, ec1, ec2, ec3, ec4, ec5, ec6]
  obtain ⟨l, rfl, ⟨h1, h2, h3⟩, hQ⟩ := h
  try dsimp only [cxOf]
  walk_at "w"
  refine n_L (fun p H1 hp s1 e1 => ?_)
  refine w_inLst (SqL.of e1) res_vs ?_
  walk_at "w"
  refine w_dec (fun h4 => ?_) (fun h4 => ?_)
  · have hlen : ∀ r ∈ RES, r.length ≤ 5 := by decide
    have hl := hlen l h4
    walk_at "w"
    refine w_catT (szl (show l.length + 1 ≤ 100 by omega)) ?_
    walk_at "w"
    refine hQ _ H1 ?_ s1
    have hno : ∀ r ∈ RES, 48 ∉ r := by decide
    unfold isName
    refine decide_eq_true ⟨by rw [List.length_append]; show 1 ≤ l.length + 1 ∧ l.length + 1 ≤ 16; omega, fun z => hno _ z (by simp), ?_, fun c hc => ?_⟩
    · obtain ⟨c, q1, q2⟩ := h2
      exact ⟨c, by rw [List.getElem?_append_left (by omega)]; exact q1, q2⟩
    · rcases List.mem_append.mp hc with hc | hc
      · exact h3 c hc
      · rw [List.mem_singleton.mp hc]; decide
  · walk_at "w"
    exact hQ l H1 (by unfold isName; exact decide_eq_true ⟨h1, h4, h2, h3⟩) s1

def sp_law_name : Sp := sp1 fun x H Q _ => ∃ a : Addr, x = .ref a ∧ Pot a H ∧ ∀ l H', isName l = true → Pot a H' → Kb a H H' → Q (.str (S l)) H'
theorem let_len : LET.length = 26 := by decide
theorem ws2_len : WS2.length = 37 := by decide
theorem ok_law_name (T : Txt w K mg) {fd : FuncData} (F : Fn_law_name K fd) (hm : mg "_law_name" = some (.ref (He.ga K "_law_name"))) (c_law_take : CalX P w K mg base CX0 1 "_law_take" sp_law_take) (c_law_mended : CalX P w K mg base CX0 1 "_law_mended" sp_law_mended) : CalX P w K mg base CX0 2 "_law_name" sp_law_name := by
  refine calx0 (k := 1) F hm sc_law_name (b_law_name F) (fun _ _ _ _ h => sp1_len h) (fun cdv A outer s H vs Q E hr h => ?_)
  obtain ⟨x0, rfl, h⟩ := h
  refine ⟨_, (pss_cons (ps_set (i := 1) sc_law_name.nd rfl (Or.inl rfl) pe_str)
    (pss_cons (ps_set (i := 2) sc_law_name.nd rfl (Or.inl rfl) (pe_op op_addI pe_int (pe_cx c_law_take hr (by decide) rfl pass0 (pa_cons (pv 0) (pa_cons pe_int pa_nil)))))
    (Evl.pss_cut (ps_if (pt_cmpR op_eq (pe_cx c_law_take hr (by decide) rfl pass0 (pa_cons (pv 0) (pa_cons pe_int pa_nil))) pe_int (nomark _))
    (pss_one (ps_set (i := 2) sc_law_name.nd rfl (Or.inl rfl) (pe_op op_addI pe_int (pe_cx c_law_take hr (by decide) rfl pass0 (pa_cons (pv 0) (pa_cons pe_int pa_nil))))))
    pss_nil)
    (pss_cons (ps_set (i := 3) sc_law_name.nd rfl (Or.inl rfl) (pe_ix ix_str (pv 1) (pe_cx c_law_take hr (by decide) rfl pass0 (pa_cons (pv 0) (pa_cons pe_int pa_nil))) (fun _ _ => rfl)))
    (pss_cons (ps_for PassesOwn.never rfl (pi_range1 (by rfl) T.f_range (pa_cons (pe_op op_subI (pv 2) pe_int) pa_nil)) (pg_name (i := 4) sc_law_name.nd rfl (Or.inl rfl))
    (pss_one (ps_set (i := 3) sc_law_name.nd rfl (Or.inl rfl) (pe_op op_catS (pv 3) (pe_ix ix_str (pe_op op_catS (pv 1) pe_str) (pe_cx c_law_take hr (by decide) rfl pass0 (pa_cons (pv 0) (pa_cons pe_int pa_nil))) (fun _ _ => rfl))))))
    (pss_one (ps_ret (pe_cx c_law_mended hr (by decide) rfl pass0 (pa_cons (pv 3) pa_nil))))))))), ?_⟩
  rw [show start ["pot", "letters", "size", "word", "k"] [x0] = [some x0, none, none, none, none] from rfl]
  have ec0 : Str.ofString "abcdefghijklmnopqrstuvwxyz" = S [97,98,99,100,101,102,103,104,105,106,107,108,109,110,111,112,113,114,115,116,117,118,119,120,121,122] := S_ofs (by decide +kernel)
  have ec1 : Str.ofString "_0123456789" = S [95,48,49,50,51,52,53,54,55,56,57] := S_ofs (by decide +kernel)
  rw [ec0, ec1]
  obtain ⟨a, rfl, hP, hQ⟩ := h
  rw [show S [97,98,99,100,101,102,103,104,105,106,107,108,109,110,111,112,113,114,115,116,117,118,119,120,121,122] = S LET from rfl]
  try dsimp only [cxOf]
  walk_at "w"
  refine ⟨_, _, rfl, a, 4, rfl, rfl, by omega, by omega, hP, fun v1 H1 hv1 P1 k1 => ?_⟩
  walk_at "w"
  refine w_mid (fun σ H' => ∃ n : Nat, n < 16 ∧ σ = [some (.ref a), some (.str (S LET)), some (.int ((n + 1 : Nat) : Int)), none, none] ∧ Pot a H' ∧ Kb a H H') ?_ ?_
  · walk_at "w"
    refine ⟨_, _, rfl, a, 4, rfl, rfl, by omega, by omega, P1, fun v2 H2 hv2 P2 k2 => ?_⟩
    walk_at "w"
    refine w_dec (fun h1 => ?_) (fun h1 => ?_)
    · walk_at "w"
      refine ⟨_, _, rfl, a, 16, rfl, rfl, by omega, by omega, P2, fun v3 H3 hv3 P3 k3 => ?_⟩
      walk_at "w"
      exact ⟨v3, hv3, by rw [show (1 : Int) + (v3 : Int) = ((v3 + 1 : Nat) : Int) by omega], P3, (k1.tr k2).tr k3⟩
    · walk_at "w"
      exact ⟨v1, by omega, by rw [show (1 : Int) + (v1 : Int) = ((v1 + 1 : Nat) : Int) by omega], P2, k1.tr k2⟩
  rintro σ H2 ⟨n, hn, rfl, P2, k2⟩
  walk_at "w"
  refine ⟨_, _, rfl, a, 26, rfl, rfl, by omega, by omega, P2, fun v3 H3 hv3 P3 k3 => ?_⟩
  walk_at "w"
  have hv3' : v3 < LET.length := by rw [let_len]; exact hv3
  refine w_ixS (szl (show LET.length ≤ 100 by decide)) (List.getElem?_eq_getElem hv3') ?_
  have hl := List.getElem_mem hv3'
  generalize LET[v3] = c0 at hl ⊢
  walk_at "w"
  refine w_rg1 (by omega) (by omega) ?_
  rw [show (((n + 1 : Nat) : Int) - 1).toNat = n by omega]
  refine for_range (fun i σ H' => ∃ (u : List Nat) (v : Option V), σ = [some (.ref a), some (.str (S LET)), some (.int ((n + 1 : Nat) : Int)), some (.str (S (c0 :: u))), v] ∧ u.length = i ∧ (∀ c ∈ u, c ∈ WS) ∧ Pot a H' ∧ Kb a H H')
    ⟨[], none, rfl, rfl, (fun c hc => by cases hc), P3, k2.tr k3⟩ ?_ ?_
  · rintro i σ H' hi ⟨u, v, rfl, hu, hw, P4, k4⟩
    have hi : i < n := by omega
    dsimp only [gName]
    walk_at "w"
    refine w_catT (szl (show LET.length + 11 ≤ 100 by decide)) ?_
    rw [show LET ++ [95,48,49,50,51,52,53,54,55,56,57] = WS2 from rfl]
    walk_at "w"
    refine ⟨_, _, rfl, a, 37, rfl, rfl, by omega, by omega, P4, fun v5 H5 hv5 P5 k5 => ?_⟩
    have hv5' : v5 < WS2.length := by rw [ws2_len]; exact hv5
    refine w_ixS (szl (show WS2.length ≤ 100 by decide)) (List.getElem?_eq_getElem hv5') ?_
    have hl5 := ws2 (List.getElem_mem hv5')
    generalize WS2[v5] = c5 at hl5 ⊢
    rw [show V.str (⟨#[c5]⟩ : Str) = V.str (S [c5]) from rfl]
    refine w_catT (szl (show (c0 :: u).length + 1 ≤ 100 by rw [List.length_cons]; omega)) ?_
    walk_at "w"
    refine ⟨u ++ [c5], _, rfl, by rw [List.length_append, hu]; rfl, fun c hc => ?_, P5, k4.tr k5⟩
    rcases List.mem_append.mp hc with hc | hc
    · exact hw c hc
    · rw [List.mem_singleton.mp hc]; exact hl5
  · rintro σ H' ⟨u, v, rfl, hu, hw, P4, k4⟩
    walk_at "w"
    refine ⟨_, rfl, c0 :: u, rfl, ⟨by rw [List.length_cons, hu]; omega, ⟨c0, rfl, hl⟩, fun c hc => ?_⟩, fun l' H6 hn6 s6 => ?_⟩
    · rcases List.mem_cons.mp hc with rfl | hc
      · exact let_ws hl
      · exact hw c hc
    · exact hQ l' H6 hn6 (P4.same s6) (k4.then s6)

def sp_law_near : Sp := sp2 fun x y H Q _ => ∃ (a : Addr) (l : List Nat), x = .ref a ∧ y = .str (S l) ∧ isName l = true ∧ Pot a H ∧ ∀ l' H', isName l' = true → Pot a H' → Kb a H H' → Q (.str (S l')) H'
theorem name_sh {l : List Nat} (h : isName l = true) : NSh l := by
  have := of_decide_eq_true h
  exact ⟨this.1, this.2.2.1, this.2.2.2⟩
theorem ok_law_near (T : Txt w K mg) {fd : FuncData} (F : Fn_law_near K fd) (hm : mg "_law_near" = some (.ref (He.ga K "_law_near"))) (c_law_take : CalX P w K mg base CX0 1 "_law_take" sp_law_take) (c_law_mended : CalX P w K mg base CX0 1 "_law_mended" sp_law_mended) : CalX P w K mg base CX0 2 "_law_near" sp_law_near := by
  refine calx0 (k := 1) F hm sc_law_near (b_law_near F) (fun _ _ _ _ h => sp2_len h) (fun cdv A outer s H vs Q E hr h => ?_)
  obtain ⟨x0, x1, rfl, h⟩ := h
  refine ⟨_, (pss_cons (ps_set (i := 2) sc_law_near.nd rfl (Or.inl rfl) (pe_cx c_law_take hr (by decide) rfl pass0 (pa_cons (pv 0) (pa_cons (pe_callB call_lenT (by rfl) T.f_len PySem.boot_len (pa_cons (pv 1) pa_nil)) pa_nil))))
    (pss_cons (ps_set (i := 3) sc_law_near.nd rfl (Or.inl rfl) (pe_ix ix_str pe_str (pe_cx c_law_take hr (by decide) rfl pass0 (pa_cons (pv 0) (pa_cons pe_int pa_nil))) (fun _ _ => rfl)))
    (pss_one (ps_ret (pe_cx c_law_mended hr (by decide) rfl pass0 (pa_cons (pe_op op_catS (pe_op op_catS (pe_slice sl_str (pv 1) po_none (po_some (pv 2))) (pv 3)) (pe_slice sl_str (pv 1) (po_some (pe_op op_addI (pv 2) pe_int)) po_none)) pa_nil)))))), ?_⟩
  rw [show start ["pot", "word", "place", "letter"] [x0, x1] = [some x0, some x1, none, none] from rfl]
  have ec0 : Str.ofString "abcdefghijklmnopqrstuvwxyz" = S [97,98,99,100,101,102,103,104,105,106,107,108,109,110,111,112,113,114,115,116,117,118,119,120,121,122] := S_ofs (by decide +kernel)
  rw [ec0]
  obtain ⟨a, l, rfl, rfl, hl, hP, hQ⟩ := h
  obtain ⟨q1, ⟨c1, q2, q2'⟩, q3⟩ := name_sh hl
  rw [show S [97,98,99,100,101,102,103,104,105,106,107,108,109,110,111,112,113,114,115,116,117,118,119,120,121,122] = S LET from rfl]
  try dsimp only [cxOf]
  walk_at "w"
  refine w_lenS (szl (show l.length ≤ 100 by omega)) ?_
  walk_at "w"
  refine ⟨_, _, rfl, a, l.length, rfl, rfl, by omega, by omega, hP, fun v1 H1 hv1 P1 k1 => ?_⟩
  walk_at "w"
  refine ⟨_, _, rfl, a, 26, rfl, rfl, by omega, by omega, P1, fun v3 H3 hv3 P3 k3 => ?_⟩
  have hv3' : v3 < LET.length := by rw [let_len]; exact hv3
  refine w_ixS (szl (show LET.length ≤ 100 by decide)) (List.getElem?_eq_getElem hv3') ?_
  have hl3 := List.getElem_mem hv3'
  generalize LET[v3] = c3 at hl3 ⊢
  rw [show V.str (⟨#[c3]⟩ : Str) = V.str (S [c3]) from rfl]
  walk_at "w"
  refine w_cutTo (szl (show l.length ≤ 100 by omega)) ?_
  walk_at "w"
  refine w_catT (szl (show (l.take v1).length + 1 ≤ 100 by rw [List.length_take]; omega)) ?_
  walk_at "w"
  rw [show (v1 : Int) + 1 = ((v1 + 1 : Nat) : Int) by omega]
  refine w_cutFrom (szl (show l.length ≤ 100 by omega)) ?_
  refine w_catT (szl (show (l.take v1 ++ [c3]).length + (l.drop (v1 + 1)).length ≤ 100 by rw [List.length_append, List.length_take, List.length_drop]; show min v1 l.length + 1 + _ ≤ 100; omega)) ?_
  walk_at "w"
  refine ⟨_, rfl, l.take v1 ++ [c3] ++ l.drop (v1 + 1), rfl, ⟨?_, ?_, fun c hc => ?_⟩, fun l' H6 hn6 s6 => ?_⟩
  · rw [List.length_append, List.length_append, List.length_take, List.length_drop]
    show 1 ≤ min v1 l.length + 1 + _ ∧ min v1 l.length + 1 + _ ≤ 16
    omega
  · cases v1 with
    | zero => exact ⟨c3, rfl, hl3⟩
    | succ v1 =>
      refine ⟨c1, ?_, q2'⟩
      rw [List.append_assoc, List.getElem?_append_left (by rw [List.length_take]; omega), List.getElem?_take_of_lt (by omega)]
      exact q2
  · rcases List.mem_append.mp hc with hc | hc
    · rcases List.mem_append.mp hc with hc | hc
      · exact q3 c (List.mem_of_mem_take hc)
      · rw [List.mem_singleton.mp hc]; exact let_ws hl3
    · exact q3 c (List.mem_of_mem_drop hc)
  · exact hQ l' H6 hn6 (P3.same s6) ((k1.tr k3).then s6)

/-- four names -/
def NmL (H : Hp) (p : Addr) : Prop := ∃ ws : List (List Nat), DL H p (ws.map fun w => PyData.str (S w)) ∧ ws.length = 4 ∧ ∀ w ∈ ws, isName w = true
theorem NmL.same {H H' : Hp} {p : Addr} (h : NmL H p) (s : Same H H') : NmL H' p := let ⟨ws, h1, h2⟩ := h; ⟨ws, h1.same s, h2⟩
theorem NmL.kb {a : Addr} {H H' : Hp} {p : Addr} (h : NmL H p) (P : Pot a H) (k : Kb a H H') (n : p ≠ a) : NmL H' p := let ⟨ws, h1, h2⟩ := h; ⟨ws, DLkb h1 P k n, h2⟩
theorem NmL.ex {q : Addr} {H H' : Hp} {p : Addr} (h : NmL H p) (x : Ex q H H') (n : p ≠ q) {xs : List V} (hq : H q = some (.lst xs)) : NmL H' p := let ⟨ws, h1, h2⟩ := h; ⟨ws, h1.ex x n hq, h2⟩
theorem NmL.ne {a : Addr} {H : Hp} {p : Addr} (h : NmL H p) (P : Pot a H) : p ≠ a := fun z => by
  obtain ⟨ws, ⟨xs, e, t⟩, h2, _⟩ := h
  obtain ⟨r, s, c, h1, _⟩ := P
  subst z
  rw [h1] at e
  cases e
  have := t.len
  rw [List.length_map, h2] at this
  cases this
theorem NmL.ix {K : PySem.W.Frag} {Q : VK} {H : Hp} {p : Addr} (h : NmL H p) {i : Nat} (hi : i < 4) (k : ∀ w, isName w = true → Q (.str (S w)) H) : rIxL K (.ref p) (.int (i : Int)) H Q := by
  obtain ⟨ws, h1, h2, h3⟩ := h
  have hi' : i < ws.length := by omega
  refine l_ix h1 (d := .str (S ws[i])) (by rw [List.getElem?_map, List.getElem?_eq_getElem hi']; rfl) (fun x tx => ?_)
  rw [tx.txt]
  exact k _ (h3 _ (List.getElem_mem hi'))
def sp_law_words : Sp := sp1 fun x H Q _ => ∃ a : Addr, x = .ref a ∧ Pot a H ∧ ∀ p H', H p = none → NmL H' p → Pot a H' → Kb a H H' → Q (.ref p) H'
theorem ok_law_words (T : Txt w K mg) {fd : FuncData} (F : Fn_law_words K fd) (hm : mg "_law_words" = some (.ref (He.ga K "_law_words"))) (c_law_name : CalX P w K mg base CX0 2 "_law_name" sp_law_name) (c_law_near : CalX P w K mg base CX0 2 "_law_near" sp_law_near) : CalX P w K mg base CX0 3 "_law_words" sp_law_words := by
  refine calx0 (k := 2) F hm sc_law_words (b_law_words F) (fun _ _ _ _ h => sp1_len h) (fun cdv A outer s H vs Q E hr h => ?_)
  obtain ⟨x0, rfl, h⟩ := h
  refine ⟨_, (pss_cons (ps_set (i := 1) sc_law_words.nd rfl (Or.inl rfl) (pe_cx c_law_name hr (by decide) rfl pass0 (pa_cons (pv 0) pa_nil)))
    (pss_cons (ps_set (i := 2) sc_law_words.nd rfl (Or.inl rfl) (pe_cx c_law_near hr (by decide) rfl pass0 (pa_cons (pv 0) (pa_cons (pv 1) pa_nil))))
    (pss_cons (ps_set (i := 3) sc_law_words.nd rfl (Or.inl rfl) (pe_cx c_law_name hr (by decide) rfl pass0 (pa_cons (pv 0) pa_nil)))
    (pss_cons (ps_set (i := 4) sc_law_words.nd rfl (Or.inl rfl) (pe_cx c_law_near hr (by decide) rfl pass0 (pa_cons (pv 0) (pa_cons (pv 3) pa_nil))))
    (pss_one (ps_ret (pe_lst (pa_cons (pv 1) (pa_cons (pv 2) (pa_cons (pv 3) (pa_cons (pv 4) pa_nil))))))))))), ?_⟩
  rw [show start ["pot", "first", "second", "third", "fourth"] [x0] = [some x0, none, none, none, none] from rfl]
  obtain ⟨a, rfl, hP, hQ⟩ := h
  try dsimp only [cxOf]
  walk_at "w"
  refine ⟨_, rfl, a, rfl, hP, fun l1 H1 n1 P1 k1 => ?_⟩
  walk_at "w"
  refine ⟨_, _, rfl, a, l1, rfl, rfl, n1, P1, fun l2 H2 n2 P2 k2 => ?_⟩
  walk_at "w"
  refine ⟨_, rfl, a, rfl, P2, fun l3 H3 n3 P3 k3 => ?_⟩
  walk_at "w"
  refine ⟨_, _, rfl, a, l3, rfl, rfl, n3, P3, fun l4 H4 n4 P4 k4 => ?_⟩
  walk_at "w"
  have k14 := ((k1.tr k2).tr k3).tr k4
  refine l_new (ds := [l1, l2, l3, l4].map fun w => PyData.str (S w)) (.cons (.str _) (.cons (.str _) (.cons (.str _) (.cons (.str _) .nil)))) (fun p H5 hp s5 d5 => ?_)
  exact hQ p H5 (Kb.none k14 P4 hp) ⟨[l1, l2, l3, l4], d5, rfl, by simp [n1, n2, n3, n4]⟩ (P4.same s5) (k14.then s5)

theorem w_eqSS {H : Hp} {Q : VK} {s : Str} (h : Q (.bl true) H) : rEq (.str s) (.str s) H Q := ⟨rfl, by rw [decide_eq_true rfl]; exact h⟩
/-- data that shows itself alike -/
def Shw (d : PyData) : Prop := Sz 180 d ∧ PyData.eqv d d = true ∧ d.showable = true ∧ d.shown.length ≤ 16777216
def sp_law_same : Sp := sp2 fun x y H Q _ => ∃ ds, TD H x (.tuple ds) ∧ TD H y (.tuple ds) ∧ Shw (.tuple ds) ∧ Q (.bl true) H
theorem ok_law_same (T : Txt w K mg) {fd : FuncData} (F : Fn_law_same K fd) (hm : mg "_law_same" = some (.ref (He.ga K "_law_same")))  : CalG P w K mg base CX0 1 "_law_same" sp_law_same := by
  refine calg0 (k := 0) F hm sc_law_same (b_law_same F) (fun _ _ _ _ h => sp2_len h) (fun cdv A outer s H vs Q E hr h => ?_)
  obtain ⟨x0, x1, rfl, h⟩ := h
  refine ⟨_, (pss_one (ps_ret (pe_and (pe_callB call_isi (by rfl) T.f_isinstance (by decide +kernel) (pa_cons (pv 0) (pa_cons (pe_bltn (v := .ty "tuple") (by rfl) T.f_tuple (by decide +kernel) rfl) pa_nil))) (pe_and (pe_cmpR (op_eqN hr.toRoom) (pv 0) (pv 1) (nomark _)) (pe_one (pe_cmpR op_eq (pe_callB (call_repr hr) (by rfl) T.f_repr (by decide +kernel) (pa_cons (pv 0) pa_nil)) (pe_callB (call_repr hr) (by rfl) T.f_repr (by decide +kernel) (pa_cons (pv 1) pa_nil)) (nomark _))))))), ?_⟩
  rw [show start ["actual", "due"] [x0, x1] = [some x0, some x1] from rfl]
  obtain ⟨ds, hx, hy, ⟨hs, he, h1, h2⟩, hQ⟩ := h
  try dsimp only [cxOf]
  walk_at "w"
  refine w_isi hx.ty_tup kit_tt ?_
  walk_at "w"
  refine d_eq hx hy hs hs ?_
  rw [he]
  walk_at "w"
  refine d_repr hx hs h1 h2 ?_
  walk_at "w"
  refine d_repr hy hs h1 h2 ?_
  refine w_eqSS ?_
  exact hQ
end
end K02

namespace K02
open PySem PySem.Spec PyProof.Rows L2 SX
local macro_rules | `(tactic| walk_at "w1") => `(tactic| (first
  | with_reducible refine w_seq ?_ | with_reducible refine w_asgN ?_ | with_reducible refine w_c ?_
  | ((with_reducible refine' w_var ?wv ?_); (case wv => exact rfl))
  | with_reducible refine w_op ?_ | with_reducible refine w_un ?_ | with_reducible refine w_next ?_ | with_reducible refine w_brk ?_ | with_reducible refine w_cnt ?_
  | with_reducible refine w_ifS ?_ | with_reducible refine w_if ?_ | with_reducible refine w_test ?_ | with_reducible refine w_tB ?_ | with_reducible refine w_bl ?_ | with_reducible refine w_blI ?_
  | with_reducible refine w_and ?_ | with_reducible refine w_or ?_ | with_reducible refine w_not ?_ | with_reducible refine w_andV ?_ | with_reducible refine w_orV ?_ | with_reducible refine w_notV ?_
  | with_reducible refine w_nil ?_ | with_reducible refine w_cons ?_ | with_reducible refine w_cb ?_ | with_reducible refine w_call ?_ | with_reducible refine w_callS ?_ | with_reducible refine w_chain ?_
  | with_reducible refine w_tupN ?_ | with_reducible refine w_lstN ?_ | with_reducible refine w_sl ?_ | with_reducible refine w_noPart ?_ | with_reducible refine w_part ?_ | with_reducible refine w_partI ?_
  | with_reducible refine w_ret ?_ | with_reducible refine w_retN ?_ | with_reducible refine w_drop ?_ | with_reducible refine w_asg ?_ | with_reducible refine w_gSub ?_
  | ((with_reducible refine' w_aug ?wv ?_); (case wv => exact rfl)) | with_reducible refine w_ipI ?_
  | with_reducible refine w_addI ?_ | with_reducible refine w_subI ?_ | with_reducible refine w_ltI ?_ | with_reducible refine w_leI ?_ | with_reducible refine w_gtI ?_ | with_reducible refine w_geI ?_
  | with_reducible refine w_eqI ?_ | with_reducible refine w_neI ?_ | with_reducible refine w_eqT ?_ | with_reducible refine w_neT ?_ | with_reducible refine w_inS ?_ | with_reducible refine w_ninS ?_
  | with_reducible refine w_absI ?_ | with_reducible refine w_intI ?_ | with_reducible refine w_maxI ?_ | with_reducible refine w_minI ?_
  | with_reducible refine w_for ?_ | with_reducible refine w_iR1 ?_ | with_reducible refine w_iR2 ?_ | with_reducible refine w_iStr ?_ | with_reducible refine w_strI ?_ | with_reducible refine w_iList ?_ | with_reducible refine w_iTup ?_
  | with_reducible refine w_bm ?_ | with_reducible refine w_bm0 ?_ | with_reducible refine w_t ?_ | with_reducible refine w_f ?_ | with_reducible refine w_nt ?_ | with_reducible refine w_nx ?_ | with_reducible refine w_rt ?_ | with_reducible refine w_bk ?_ | with_reducible refine w_ct ?_ | with_reducible refine w_nf ?_ | with_reducible refine w_lc ?_ | with_reducible refine w_yes ?_ | with_reducible refine w_neg ?_ | with_reducible refine w_intB ?_ | with_reducible refine w_fld ?_ | with_reducible refine w_setf ?_ | with_reducible refine w_faug ?_ | with_reducible refine w_meth ?_ | with_reducible refine w_bmS ?_ | with_reducible refine w_start ?_ | with_reducible refine w_revL ?_ | with_reducible refine w_iR3 ?_))
local macro_rules | `(tactic| walk_at "w") => `(tactic| (repeat (first | walk_at "w1" | dsimp (config := { proj := false }) only [List.set_cons_zero, List.set_cons_succ])))
section
variable {w : World} {K : PySem.W.Frag} {mg : Str → Option Value} {base : Heap}

theorem w_ninTup {K : PySem.W.Frag} {H : Hp} {Q : VK} {p : Addr} {a : List Nat} {xs : List V} {rs : List (List Nat)} (hs : SqT K H p xs) (e : xs = rs.map fun r => V.str (S r)) (h : Q (.bl (!decide (a ∈ rs))) H) : rIn K true (.str (S a)) (.ref p) H Q := by
  subst e
  refine ⟨p, _, rfl, .inr hs, rfl, flat_S rs, ?_⟩
  rw [inV_S]
  exact h
def dBOOL : PyData := .tuple [.str (S wNAMED), .str (S wBOOL)]
theorem tb_bool (K : PySem.W.Frag) : tb_BOOL.map (He.Dv.v K) = [V.str (S wNAMED), V.str (S wBOOL)] := by
  show [V.str _, V.str _] = [V.str _, V.str _]
  decide +kernel
theorem bool_dp (T : Txt w K mg) (H : Hp) : DpN K H 180 (.ref (He.ga K "BOOL")) dBOOL :=
  ⟨.tup (by have := T.t_BOOL H; rw [tb_bool] at this; exact this) (.cons (.str _) (.cons (.str _) .nil)), by simp only [dBOOL, PyData.canLay0, PyData.canLayAll0, strOk_S cokNamed, strOk_S cokBool, Bool.and_self], by simp [dBOOL, PyData.depth, PyData.depthAll]⟩
theorem bool_eq (T : Txt w K mg) {H : Hp} {v : V} {d : PyData} {Q : VK} (h : TD H v d) (hs : Sz 180 d) (k : Q (.bl (PyData.eqv d dBOOL)) H) : rEqN K v (.ref (He.ga K "BOOL")) H Q := ⟨d, _, ⟨h.dp, hs⟩, bool_dp T H, k⟩
theorem eqv_bool {s w : List Nat} : PyData.eqv (.tuple [.str (S s), .str (S w)]) dBOOL = decide (s = wNAMED ∧ w = wBOOL) := by
  simp only [dBOOL, PyData.eqv, PyData.eqvAll, S_beq, Bool.and_true]
  by_cases h : s = wNAMED <;> by_cases h' : w = wBOOL <;> simp [h, h']
theorem eqv_boolO {s : List Nat} {a : PyData} (h : tyOf a ≠ "str") : PyData.eqv (.tuple [.str (S s), a]) dBOOL = false := by
  have e : PyData.eqv a (.str (S wBOOL)) = false := by cases a <;> first | (exact absurd rfl h) | rfl | simp [PyData.eqv]
  simp [dBOOL, PyData.eqv, PyData.eqvAll, e]
def sp_kind_parts : Sp := sp1 fun x H Q _ => ∃ d o, TD H x d ∧ KP d o ∧ (o = none → ∀ H', Same H H' → Q .non H') ∧ ∀ l, o = some l → ∀ v H', Same H H' → TD H' v (.tuple l) → Q v H'
theorem ok_kind_parts (T : Txt w K mg) {fd : FuncData} (F : Fn_kind_parts K fd) (hm : mg "_kind_parts" = some (.ref (He.ga K "_kind_parts"))) (c_is_name : CalX P w K mg base CX0 1 "is_name" sp_is_name) : CalX P w K mg base CX0 2 "_kind_parts" sp_kind_parts := by
  refine calx0 (k := 1) F hm sc_kind_parts (b_kind_parts F) (fun _ _ _ _ h => sp1_len h) (fun cdv A outer s H vs Q E hr h => ?_)
  obtain ⟨x0, rfl, h⟩ := h
  refine ⟨_, (pss_cons (ps_if (pt_not (pt_val (pe_callB call_isi (by rfl) T.f_isinstance (by decide +kernel) (pa_cons (pv 0) (pa_cons (pe_bltn (v := .ty "tuple") (by rfl) T.f_tuple (by decide +kernel) rfl) pa_nil)))))
    (pss_one (ps_ret pe_non))
    pss_nil)
    (pss_cons (ps_if (PW.pt (pw_and (pt_cmpR op_eq (pe_callB call_lenQ (by rfl) T.f_len PySem.boot_len (pa_cons (pv 0) pa_nil)) pe_int (nomark _)) (pw_and1 (pt_cmpR op_eq (pe_ix ix_tup (pv 0) pe_int (fun _ _ => rfl)) pe_str (nomark _)))))
    (pss_one (ps_ret (pe_tup (pa_cons (pe_ix ix_tup (pv 0) pe_int (fun _ _ => rfl)) (pa_cons (pe_ix ix_tup (pv 0) pe_int (fun _ _ => rfl)) pa_nil)))))
    pss_nil)
    (pss_cons (ps_if (PW.pt (pw_or (pt_cmpR op_ne (pe_callB call_lenQ (by rfl) T.f_len PySem.boot_len (pa_cons (pv 0) pa_nil)) pe_int (nomark _)) (pw_or1 (pt_cmpR op_notIn_seq (pe_ix ix_tup (pv 0) pe_int (fun _ _ => rfl)) (pe_tup (pa_cons pe_str (pa_cons pe_str pa_nil))) rfl))))
    (pss_one (ps_ret pe_non))
    pss_nil)
    (pss_cons (ps_if (PW.pt (pw_or (pt_cmpR (op_eqN hr) (pv 0) (pe_gv T.v_BOOL) (nomark _)) (pw_or1 (pt_val (pe_cx c_is_name hr (by decide) rfl pass0 (pa_cons (pe_ix ix_tup (pv 0) pe_int (fun _ _ => rfl)) pa_nil))))))
    (pss_one (ps_ret (pe_tup pa_nil)))
    pss_nil)
    (pss_one (ps_ret pe_non)))))), ?_⟩
  rw [show start ["kind"] [x0] = [some x0] from rfl]
  have ec0 : Str.ofString "to" = S [116,111] := S_ofs (by decide +kernel)
  have ec1 : Str.ofString "named" = S [110,97,109,101,100] := S_ofs (by decide +kernel)
  have ec2 : Str.ofString "free" = S [102,114,101,101] := S_ofs (by decide +kernel)
  rw [ec0, ec1, ec2]
  obtain ⟨d, o, hd, hk, hN, hS⟩ := h
  try dsimp only [cxOf]
  walk_at "w"
  cases hk with
  | notT h =>
    refine w_isi hd.ty (kit_tup h) ?_
    walk_at "w"
    exact hN rfl H (Same.refl H)
  | to a b =>
    refine w_isi hd.ty_tup kit_tt ?_
    walk_at "w"
    refine t_len hd ?_
    walk_at "w"
    refine w_dec (fun _ => ?_) (fun z => absurd rfl z)
    walk_at "w"
    refine t_ixS (n := 0) hd rfl ?_
    walk_at "w"
    rw [decide_eq_true rfl]
    walk_at "w"
    refine t_ix (n := 1) hd rfl (fun x tx => ?_)
    walk_at "w"
    refine t_ix (n := 2) hd rfl (fun y ty => ?_)
    walk_at "w"
    refine t_new (.cons tx (.cons ty .nil)) (fun p H1 hp s1 d1 => ?_)
    exact hS _ rfl _ H1 s1 d1
  | len h2 h3 =>
    rename_i ds
    refine w_isi hd.ty_tup kit_tt ?_
    walk_at "w"
    refine t_len hd ?_
    walk_at "w"
    refine w_dec (fun z => absurd (by omega) h3) (fun _ => ?_)
    walk_at "w"
    refine t_len hd ?_
    walk_at "w"
    refine w_ndec (fun _ => ?_) (fun z => absurd (by omega) h2)
    walk_at "w"
    exact hN rfl H (Same.refl H)
  | three a b h =>
    refine w_isi hd.ty_tup kit_tt ?_
    walk_at "w"
    refine t_len hd ?_
    walk_at "w"
    refine w_dec (fun _ => ?_) (fun z => absurd rfl z)
    walk_at "w"
    refine t_ixS (n := 0) hd rfl ?_
    walk_at "w"
    rw [decide_eq_false h]
    walk_at "w"
    refine t_len hd ?_
    walk_at "w"
    refine w_ndec (fun _ => ?_) (fun z => by exact absurd (show (3 : Int) = 2 from z) (by decide))
    walk_at "w"
    exact hN rfl H (Same.refl H)
  | two a h h' =>
    refine w_isi hd.ty_tup kit_tt ?_
    walk_at "w"
    refine t_len hd ?_
    walk_at "w"
    refine w_dec (fun z => by exact absurd (show (2 : Int) = 3 from z) (by decide)) (fun _ => ?_)
    walk_at "w"
    refine t_len hd ?_
    walk_at "w"
    refine w_ndec (fun z => absurd rfl z) (fun _ => ?_)
    walk_at "w"
    refine t_ixS (n := 0) hd rfl ?_
    walk_at "w"
    refine n_T (fun p H1 hp s1 e1 => ?_)
    refine w_ninTup (rs := [wNAMED, wFREE]) (SqT.of e1) rfl ?_
    walk_at "w"
    refine w_ndec (fun _ => ?_) (fun z => absurd z (by simp [h, h']))
    walk_at "w"
    exact hN rfl H1 s1
  | name h hw hl =>
    rename_i s w
    have hs : s ∈ [wNAMED, wFREE] := by rcases h with h | h <;> simp [h]
    refine w_isi hd.ty_tup kit_tt ?_
    walk_at "w"
    refine t_len hd ?_
    walk_at "w"
    refine w_dec (fun z => by exact absurd (show (2 : Int) = 3 from z) (by decide)) (fun _ => ?_)
    walk_at "w"
    refine t_len hd ?_
    walk_at "w"
    refine w_ndec (fun z => absurd rfl z) (fun _ => ?_)
    walk_at "w"
    refine t_ixS (n := 0) hd rfl ?_
    walk_at "w"
    refine n_T (fun p H1 hp s1 e1 => ?_)
    refine w_ninTup (rs := [wNAMED, wFREE]) (SqT.of e1) rfl ?_
    walk_at "w"
    refine w_ndec (fun z => absurd hs z) (fun _ => ?_)
    walk_at "w"
    have hd1 := hd.tm (Tm.same s1)
    have hcs : Cok s := by rcases h with h | h <;> rw [h]; exact cokNamed; exact cokFree
    refine bool_eq T hd1 ⟨by simp only [PyData.canLay0, PyData.canLayAll0, strOk_S hcs, strOk_S hw, Bool.and_self], by simp [PyData.depth, PyData.depthAll]⟩ ?_
    rw [eqv_bool]
    walk_at "w"
    by_cases h5 : s = wNAMED ∧ w = wBOOL
    · rw [decide_eq_true h5]
      walk_at "w"
      refine t_new .nil (fun p2 H2 hp2 s2 d2 => ?_)
      exact hS [] (by rw [decide_eq_true h5]; rfl) _ H2 (s1.tr s2) d2
    · rw [decide_eq_false h5]
      walk_at "w"
      refine t_ixS (n := 1) hd1 rfl ?_
      walk_at "w"
      refine ⟨_, rfl, .inl ⟨w, rfl, by omega, ?_⟩⟩
      walk_at "w"
      refine w_b (fun h6 => ?_) (fun h6 => ?_)
      · walk_at "w"
        refine t_new .nil (fun p2 H2 hp2 s2 d2 => ?_)
        exact hS [] (by rw [h6, Bool.or_true]; rfl) _ H2 (s1.tr s2) d2
      · walk_at "w"
        exact hN (by rw [h6, decide_eq_false h5]; rfl) H1 s1
  | odd h ha hs' =>
    rename_i s a
    have hs : s ∈ [wNAMED, wFREE] := by rcases h with h | h <;> simp [h]
    refine w_isi hd.ty_tup kit_tt ?_
    walk_at "w"
    refine t_len hd ?_
    walk_at "w"
    refine w_dec (fun z => by exact absurd (show (2 : Int) = 3 from z) (by decide)) (fun _ => ?_)
    walk_at "w"
    refine t_len hd ?_
    walk_at "w"
    refine w_ndec (fun z => absurd rfl z) (fun _ => ?_)
    walk_at "w"
    refine t_ixS (n := 0) hd rfl ?_
    walk_at "w"
    refine n_T (fun p H1 hp s1 e1 => ?_)
    refine w_ninTup (rs := [wNAMED, wFREE]) (SqT.of e1) rfl ?_
    walk_at "w"
    refine w_ndec (fun z => absurd hs z) (fun _ => ?_)
    walk_at "w"
    have hd1 := hd.tm (Tm.same s1)
    have hcs : Cok s := by rcases h with h | h <;> rw [h]; exact cokNamed; exact cokFree
    refine bool_eq T hd1 ⟨by simp only [PyData.canLay0, PyData.canLayAll0, strOk_S hcs, hs'.1, Bool.and_self], by have := hs'.2; simp [PyData.depth, PyData.depthAll]; omega⟩ ?_
    rw [eqv_boolO ha]
    walk_at "w"
    refine t_ix (n := 1) hd1 rfl (fun x tx => ?_)
    walk_at "w"
    refine ⟨_, rfl, .inr ⟨a, tx, ha, ?_⟩⟩
    walk_at "w"
    exact hN rfl H1 s1

theorem l_truth {K : PySem.W.Frag} {H : Hp} {p : Addr} {ds : List PyData} {F : Bool → Prop} (h : DL H p ds) (k : F (decide (ds ≠ []))) : ∃ k, TruV K (.ref p) H k ∧ F k := by
  obtain ⟨xs, e, t⟩ := h
  refine ⟨_, .inl ⟨xs, SqL.of e, ?_⟩, k⟩
  have := t.len
  cases xs <;> cases ds <;> first | rfl | (cases this; done) | simp
def sp_kind_ok : Sp := sp1 fun x H Q _ => ∃ d b, TD H x d ∧ KF d b ∧ ∀ H', Same H H' → Q (.bl b) H'
theorem ok_kind_ok (T : Txt w K mg) {fd : FuncData} (F : Fn_kind_ok K fd) (hm : mg "kind_ok" = some (.ref (He.ga K "kind_ok"))) (c_kind_parts : CalX P w K mg base CX0 2 "_kind_parts" sp_kind_parts) : CalX P w K mg base CX0 3 "kind_ok" sp_kind_ok := by
  refine calx0 (k := 2) F hm sc_kind_ok (b_kind_ok F) (fun _ _ _ _ h => sp1_len h) (fun cdv A outer s H vs Q E hr h => ?_)
  obtain ⟨x0, rfl, h⟩ := h
  refine ⟨_, (pss_cons (ps_set (i := 1) sc_kind_ok.nd rfl (Or.inl rfl) pe_int)
    (pss_cons (ps_set (i := 2) sc_kind_ok.nd rfl (Or.inl rfl) (pe_lst (pa_cons (pv 0) pa_nil)))
    (pss_cons (ps_while PassesOwn.never (pt_truth (pv 2) (by intro _; rfl))
    (pss_cons (ps_set (i := 3) sc_kind_ok.nd rfl (Or.inl rfl) (pe_cx c_kind_parts hr (by decide) rfl pass0 (pa_cons (pe_bm0 PySem.F.plainAttrs_list PySem.F.slot_list_pop PySem.F.type_list_pop mt_pop (pv 2)) pa_nil)))
    (pss_cons (ps_aug (i := 1) sc_kind_ok.nd rfl (Or.inl rfl) pe_int ip_add)
    (pss_cons (ps_if (PW.pt (pw_or (pt_cmpR op_isN (pv 3) pe_non (nomark _)) (pw_or1 (pt_cmpR op_gtI (pv 1) (pe_gv T.v_KIND_NODES) (nomark _)))))
    (pss_one (ps_ret pe_bl))
    pss_nil)
    (pss_one (ps_expr (pe_bm PySem.F.plainAttrs_list PySem.F.slot_list_extend PySem.F.type_list_extend mt_extendT (pv 2) (pa_cons (pv 3) pa_nil))))))))
    (pss_one (ps_ret pe_bl))))), ?_⟩
  rw [show start ["kind", "size", "waiting", "parts"] [x0] = [some x0, none, none, none] from rfl]
  obtain ⟨d, b, hd, hk, hQ⟩ := h
  try dsimp only [cxOf]
  walk_at "w"
  refine l_new (.cons hd .nil) (fun p H1 hp s1 d1 => ?_)
  walk_at "w"
  have inv : ∀ H2, Same H H2 → ∃ o, o = b := fun _ _ => ⟨b, rfl⟩
  refine w_whl (fun m σ H' => ∃ (ds : List PyData) (size : Nat) (v : Option V), m = 101 - size ∧ σ = [some x0, some (.int (size : Int)), some (.ref p), v] ∧ Same H H' ∧ DL H' p ds ∧ ds.length ≤ size + 1 ∧ size ≤ 100 ∧ KO size ds b) (101 - 0) ⟨[d], 0, none, rfl, rfl, s1, d1, Nat.le_refl _, by omega, KO.start hk⟩ ?_
  rintro m σ H2 ⟨ds, size, v, rfl, rfl, s2, d2, hz1, hz, ko⟩
  walk_at "w"
  refine l_truth d2 ?_
  by_cases he : ds = []
  · subst he
    walk_at "w"
    rw [ko.done hz] at hQ
    exact hQ H2 s2
  obtain ⟨ds, e, rfl⟩ : ∃ as a, ds = as ++ [a] := ⟨_, _, (List.dropLast_concat_getLast he).symm⟩
  rw [decide_eq_true he]
  walk_at "w"
  refine w_turn ?_
  walk_at "w"
  refine l_ty d2 ?_
  walk_at "w"
  refine l_pop d2 (fun x H3 tx d3 x3 => ?_)
  have hp0 := hp
  have s3 := s2.ex (show H p = none from hp) x3
  walk_at "w"
  obtain ⟨o, ho, hn, hl⟩ := ko.step
  refine ⟨_, rfl, e, o, tx, ho, fun hno H4 s4 => ?_, fun l hlo u H4 s4 tu => ?_⟩
  · walk_at "w"
    refine ⟨rfl, ?_⟩
    rw [decide_eq_true rfl]
    walk_at "w"
    rw [hn hno] at hQ
    exact hQ H4 (s3.tr s4)
  · obtain ⟨ko', hll⟩ := hl l hlo
    obtain ⟨ua, uxs, rfl, hua, tus⟩ := tu.tuple
    walk_at "w"
    refine ⟨rfl, ?_⟩
    rw [decide_eq_false (by intro z; cases z)]
    walk_at "w"
    refine w_dec (fun h1 => ?_) (fun h1 => ?_)
    · walk_at "w"
      rw [ko'.over (by omega)] at hQ
      exact hQ H4 (s3.tr s4)
    walk_at "w"
    have d4 := d3.same s4
    rw [List.length_append] at hz1
    have hz1 : ds.length + 1 ≤ size + 1 := hz1
    refine l_ty d4 ?_
    walk_at "w"
    refine l_extT d4 tu (fun H5 d5 x5 => ?_)
    walk_at "w"
    refine ⟨_, by omega, ds ++ l, size + 1, _, rfl, rfl, (s3.tr s4).ex hp x5, d5, by rw [List.length_append]; omega, by omega, ko'⟩
end
end K02

namespace K02
open PySem PySem.Spec PyProof.Rows L2 SX
local macro_rules | `(tactic| walk_at "w1") => `(tactic| (first
  | with_reducible refine w_seq ?_ | with_reducible refine w_asgN ?_ | with_reducible refine w_c ?_
  | ((with_reducible refine' w_var ?wv ?_); (case wv => exact rfl))
  | with_reducible refine w_op ?_ | with_reducible refine w_un ?_ | with_reducible refine w_next ?_ | with_reducible refine w_brk ?_ | with_reducible refine w_cnt ?_
  | with_reducible refine w_ifS ?_ | with_reducible refine w_if ?_ | with_reducible refine w_test ?_ | with_reducible refine w_tB ?_ | with_reducible refine w_bl ?_ | with_reducible refine w_blI ?_
  | with_reducible refine w_and ?_ | with_reducible refine w_or ?_ | with_reducible refine w_not ?_ | with_reducible refine w_andV ?_ | with_reducible refine w_orV ?_ | with_reducible refine w_notV ?_
  | with_reducible refine w_nil ?_ | with_reducible refine w_cons ?_ | with_reducible refine w_cb ?_ | with_reducible refine w_call ?_ | with_reducible refine w_callS ?_ | with_reducible refine w_chain ?_
  | with_reducible refine w_tupN ?_ | with_reducible refine w_lstN ?_ | with_reducible refine w_sl ?_ | with_reducible refine w_noPart ?_ | with_reducible refine w_part ?_ | with_reducible refine w_partI ?_
  | with_reducible refine w_ret ?_ | with_reducible refine w_retN ?_ | with_reducible refine w_drop ?_ | with_reducible refine w_asg ?_ | with_reducible refine w_gSub ?_
  | ((with_reducible refine' w_aug ?wv ?_); (case wv => exact rfl)) | with_reducible refine w_ipI ?_
  | with_reducible refine w_addI ?_ | with_reducible refine w_subI ?_ | with_reducible refine w_ltI ?_ | with_reducible refine w_leI ?_ | with_reducible refine w_gtI ?_ | with_reducible refine w_geI ?_
  | with_reducible refine w_eqI ?_ | with_reducible refine w_neI ?_ | with_reducible refine w_eqT ?_ | with_reducible refine w_neT ?_ | with_reducible refine w_inS ?_ | with_reducible refine w_ninS ?_
  | with_reducible refine w_absI ?_ | with_reducible refine w_intI ?_ | with_reducible refine w_maxI ?_ | with_reducible refine w_minI ?_
  | with_reducible refine w_for ?_ | with_reducible refine w_iR1 ?_ | with_reducible refine w_iR2 ?_ | with_reducible refine w_iStr ?_ | with_reducible refine w_strI ?_ | with_reducible refine w_iList ?_ | with_reducible refine w_iTup ?_
  | with_reducible refine w_bm ?_ | with_reducible refine w_bm0 ?_ | with_reducible refine w_t ?_ | with_reducible refine w_f ?_ | with_reducible refine w_nt ?_ | with_reducible refine w_nx ?_ | with_reducible refine w_rt ?_ | with_reducible refine w_bk ?_ | with_reducible refine w_ct ?_ | with_reducible refine w_nf ?_ | with_reducible refine w_lc ?_ | with_reducible refine w_yes ?_ | with_reducible refine w_neg ?_ | with_reducible refine w_intB ?_ | with_reducible refine w_fld ?_ | with_reducible refine w_setf ?_ | with_reducible refine w_faug ?_ | with_reducible refine w_meth ?_ | with_reducible refine w_bmS ?_ | with_reducible refine w_start ?_ | with_reducible refine w_revL ?_ | with_reducible refine w_iR3 ?_))
local macro_rules | `(tactic| walk_at "w") => `(tactic| (repeat (first | walk_at "w1" | dsimp (config := { proj := false }) only [List.set_cons_zero, List.set_cons_succ])))
section
variable {w : World} {K : PySem.W.Frag} {mg : Str → Option Value} {base : Heap}

def rInTN (K : PySem.W.Frag) : R2 := fun x y H Q => ∃ d ds, DpN K H 180 x d ∧ DpN K H 180 y (.tuple ds) ∧ Q (.bl (ds.any fun z => PyData.eqv z d)) H
theorem op_inTN {X : Cx} {j : Nat} (hr : Room j X.A) : OpR X (compareOp .In) (rInTN X.K) := by
  intro pins s σ H x y v u Q I rx ry h
  obtain ⟨d, ds, ⟨hd, ld, nd⟩, ⟨he, le, ne⟩, q⟩ := h
  obtain ⟨as, r1⟩ := Dp.reads I d x v hd rx
  obtain ⟨bs, r2⟩ := Dp.reads I (.tuple ds) y u he ry
  exact SeqAt.in_tuple_reads r2 r1 (by simpa only [PyData.canLay0] using le) ld (by have := hr.un; omega) ⟨.bl _, H, I, rfl, q⟩
theorem w_nin23 {H : Hp} {Q : VK} {n : Nat} {p : Addr} (hs : SqT K H p [.int 2, .int 3]) (h : Q (.bl (decide (n ≠ 2 ∧ n ≠ 3))) H) : rIn K true (.int (n : Int)) (.ref p) H Q := by
  refine ⟨p, _, rfl, .inr hs, rfl, rfl, ?_⟩
  have e : (!inV (.int (n : Int)) [V.int 2, V.int 3]) = decide (n ≠ 2 ∧ n ≠ 3) := by
    unfold inV
    simp only [List.any_cons, List.any_nil, Bool.or_false]
    by_cases h2 : n = 2
    · subst h2; rfl
    · by_cases h3 : n = 3
      · subst h3; rfl
      · rw [decide_eq_true (show n ≠ 2 ∧ n ≠ 3 from ⟨h2, h3⟩)]
        have a : ((2 : Int) == (n : Int)) = false := beq_eq_false_iff_ne.mpr (by omega)
        have b : ((3 : Int) == (n : Int)) = false := beq_eq_false_iff_ne.mpr (by omega)
        first
          | (show (!(((2 : Int) == (n : Int)) || ((3 : Int) == (n : Int)))) = true; rw [a, b]; rfl)
  have e' : (if true = true then !inV (.int (n : Int)) [V.int 2, V.int 3] else inV (.int (n : Int)) [V.int 2, V.int 3]) = decide (n ≠ 2 ∧ n ≠ 3) := by rw [if_pos rfl]; exact e
  first
    | (rw [e']; exact h)
    | (rw [e]; exact h)
def dLOGIC : List PyData := LOGIC.map fun w => .str (S w)
theorem tb_logic (K : PySem.W.Frag) : tb_LOGIC_WORDS.map (He.Dv.v K) = LOGIC.map fun w => V.str (S w) := by
  show [V.str _, V.str _, V.str _, V.str _, V.str _, V.str _, V.str _, V.str _, V.str _] = [V.str _, V.str _, V.str _, V.str _, V.str _, V.str _, V.str _, V.str _, V.str _]
  decide +kernel
theorem logic_dp (T : Txt w K mg) (H : Hp) : DpN K H 180 (.ref (He.ga K "LOGIC_WORDS")) (.tuple dLOGIC) := by
  have h := T.t_LOGIC_WORDS H
  rw [tb_logic] at h
  obtain ⟨a, b⟩ := shS LOGIC (by intro w hw c hc; have : ∀ w ∈ LOGIC, ∀ c ∈ w, c < 256 := by decide
                                 exact this w hw c hc)
  refine ⟨.tup h (dpS LOGIC), ?_, ?_⟩
  · simp only [PyData.canLay0]; exact a
  · simp only [PyData.depth]; unfold dLOGIC; omega
theorem logic_any (w : List Nat) : (dLOGIC.any fun z => PyData.eqv z (.str (S w))) = decide (w ∈ LOGIC) := by
  unfold dLOGIC
  rw [List.any_map]
  have e : ((fun z => PyData.eqv z (.str (S w))) ∘ fun w => PyData.str (S w)) = fun v => decide (v = w) := by
    funext v; show PyData.eqv (.str (S v)) (.str (S w)) = _; simp only [PyData.eqv, S_beq]
  rw [e]
  by_cases h : w ∈ LOGIC
  · rw [decide_eq_true h]; exact List.any_eq_true.mpr ⟨w, h, decide_eq_true rfl⟩
  · rw [decide_eq_false h]; exact List.any_eq_false.mpr fun v hv => by simp; intro z; subst z; exact h hv
theorem logic_anyO {d : PyData} (h : tyOf d ≠ "str") : (dLOGIC.any fun z => PyData.eqv z d) = false := by
  unfold dLOGIC
  rw [List.any_map]
  refine List.any_eq_false.mpr fun v hv => ?_
  show ¬ PyData.eqv (.str (S v)) d = true
  cases d <;> first | (exact absurd rfl h) | simp [PyData.eqv]
theorem sz_str {w : List Nat} (h : Cok w) {n : Nat} : L2.Sz n (.str (S w)) := ⟨by simp only [PyData.canLay0, strOk_S h], by simp [PyData.depth]⟩
def sp_form_ok : Sp := sp2 fun x y H Q _ => ∃ (d : PyData) (l : Nat) (b : Bool), TD H x d ∧ y = .int (l : Int) ∧ LF d l b ∧ ∀ H', Same H H' → Q (.bl b) H'
theorem ok_form_ok (T : Txt w K mg) {fd : FuncData} (F : Fn_form_ok K fd) (hm : mg "_form_ok" = some (.ref (He.ga K "_form_ok"))) (c_is_name : CalX P w K mg base CX0 1 "is_name" sp_is_name) (c_kind_ok : CalX P w K mg base CX0 3 "kind_ok" sp_kind_ok) : CalX P w K mg base CX0 4 "_form_ok" sp_form_ok := by
  refine calx0 (k := 3) F hm sc_form_ok (b_form_ok F) (fun _ _ _ _ h => sp2_len h) (fun cdv A outer s H vs Q E hr h => ?_)
  obtain ⟨x0, x1, rfl, h⟩ := h
  refine ⟨_, (pss_cons (ps_if (PW.pt (pw_or (pt_not (pt_val (pe_callB call_isi (by rfl) T.f_isinstance (by decide +kernel) (pa_cons (pv 0) (pa_cons (pe_bltn (v := .ty "tuple") (by rfl) T.f_tuple (by decide +kernel) rfl) pa_nil))))) (pw_or1 (pt_cmpR op_notIn_seq (pe_callB call_lenQ (by rfl) T.f_len PySem.boot_len (pa_cons (pv 0) pa_nil)) (pe_tup (pa_cons pe_int (pa_cons pe_int pa_nil))) rfl))))
    (pss_one (ps_ret pe_bl))
    pss_nil)
    (pss_cons (ps_set (i := 2) sc_form_ok.nd rfl (Or.inl rfl) (pe_ix ix_tup (pv 0) pe_int (fun _ _ => rfl)))
    (pss_cons (ps_if (pt_cmpR op_eq (pe_callB call_lenQ (by rfl) T.f_len PySem.boot_len (pa_cons (pv 0) pa_nil)) pe_int (nomark _))
    (pss_cons (ps_set (i := 3) sc_form_ok.nd rfl (Or.inl rfl) (pe_ix ix_tup (pv 0) pe_int (fun _ _ => rfl)))
    (pss_cons (ps_set (i := 4) sc_form_ok.nd rfl (Or.inl rfl) (pe_and (pe_callB call_isi (by rfl) T.f_isinstance (by decide +kernel) (pa_cons (pv 3) (pa_cons (pe_bltn (v := .ty "int") (by rfl) T.f_int (by decide +kernel) rfl) pa_nil))) (pe_one (pe_not (pe_callB call_isi (by rfl) T.f_isinstance (by decide +kernel) (pa_cons (pv 3) (pa_cons (pe_bltn (v := .ty "bool") (by rfl) T.f_bool (by decide +kernel) rfl) pa_nil)))))))
    (pss_one (ps_ret (pe_and (pe_cmpR op_eq (pv 2) pe_str (nomark _)) (pe_and (pv 4) (pe_one (pe_chain op_leI op_ltI pe_int (pv 3) (pv 1)))))))))
    pss_nil)
    (pss_cons (ps_if (pt_cmpR op_eq (pv 2) pe_str (nomark _))
    (pss_one (ps_ret (pe_and (pe_cx c_is_name hr (by decide) rfl pass0 (pa_cons (pe_ix ix_tup (pv 0) pe_int (fun _ _ => rfl)) pa_nil)) (pe_one (pe_cx c_kind_ok hr (by decide) rfl pass0 (pa_cons (pe_ix ix_tup (pv 0) pe_int (fun _ _ => rfl)) pa_nil))))))
    pss_nil)
    (pss_cons (ps_if (pt_cmpR op_eq (pv 2) pe_str (nomark _))
    (pss_one (ps_ret (pe_and (pe_or (pe_cx c_is_name hr (by decide) rfl pass0 (pa_cons (pe_ix ix_tup (pv 0) pe_int (fun _ _ => rfl)) pa_nil)) (pe_one (pe_cmpR (op_inTN hr) (pe_ix ix_tup (pv 0) pe_int (fun _ _ => rfl)) (pe_gv T.v_LOGIC_WORDS) rfl))) (pe_one (pe_cx c_kind_ok hr (by decide) rfl pass0 (pa_cons (pe_ix ix_tup (pv 0) pe_int (fun _ _ => rfl)) pa_nil))))))
    pss_nil)
    (pss_cons (ps_if (pt_cmpR op_eq (pv 2) pe_str (nomark _))
    (pss_one (ps_ret (pe_cx c_kind_ok hr (by decide) rfl pass0 (pa_cons (pe_ix ix_tup (pv 0) pe_int (fun _ _ => rfl)) pa_nil))))
    pss_nil)
    (pss_one (ps_ret (pe_cmpR op_eq (pv 2) pe_str (nomark _)))))))))), ?_⟩
  rw [show start ["part", "level", "word", "index", "whole"] [x0, x1] = [some x0, some x1, none, none, none] from rfl]
  have ec0 : Str.ofString "var" = S [118,97,114] := S_ofs (by decide +kernel)
  have ec1 : Str.ofString "const" = S [99,111,110,115,116] := S_ofs (by decide +kernel)
  have ec2 : Str.ofString "lam" = S [108,97,109] := S_ofs (by decide +kernel)
  have ec3 : Str.ofString "app" = S [97,112,112] := S_ofs (by decide +kernel)
  have ec4 : Str.ofString "bound" = S [98,111,117,110,100] := S_ofs (by decide +kernel)
  rw [ec0, ec1, ec2, ec3, ec4]
  obtain ⟨d, l, b, hd, rfl, hk, hQ⟩ := h
  try dsimp only [cxOf]
  walk_at "w"
  cases hk with
  | notT h =>
    refine w_isi hd.ty (kit_tup h) ?_
    walk_at "w"
    exact hQ H (Same.refl H)
  | len h2 h3 =>
    rename_i ds
    refine w_isi hd.ty_tup kit_tt ?_
    walk_at "w"
    refine t_len hd ?_
    walk_at "w"
    refine n_T (fun p H1 hp s1 e1 => ?_)
    refine w_nin23 (SqT.of e1) ?_
    rw [decide_eq_true (show ds.length ≠ 2 ∧ ds.length ≠ 3 from ⟨h2, h3⟩)]
    walk_at "w"
    exact hQ H1 s1
  | two h h1 h2 =>
    rename_i s x
    refine w_isi hd.ty_tup kit_tt ?_
    walk_at "w"
    refine t_len hd ?_
    walk_at "w"
    refine n_T (fun p H1 hp s1 e1 => ?_)
    refine w_nin23 (SqT.of e1) ?_
    walk_at "w"
    have hd1 := hd.tm (Tm.same s1)
    refine w_b (fun h => by cases (show false = true from h)) (fun _ => ?_)
    walk_at "w"
    refine t_ixS (n := 0) hd1 rfl ?_
    walk_at "w"
    refine t_len hd1 ?_
    walk_at "w"
    refine w_dec (fun _ => ?_) (fun z => absurd rfl z)
    walk_at "w"
    refine t_ix (n := 1) hd1 rfl (fun y ty => ?_)
    walk_at "w"
    refine w_isi ty.ty (kit_int h1 h2) ?_
    walk_at "w"
    rw [decide_eq_false h]
    walk_at "w"
    exact hQ H1 s1
  | bndO h h' =>
    rename_i x
    refine w_isi hd.ty_tup kit_tt ?_
    walk_at "w"
    refine t_len hd ?_
    walk_at "w"
    refine n_T (fun p H1 hp s1 e1 => ?_)
    refine w_nin23 (SqT.of e1) ?_
    walk_at "w"
    have hd1 := hd.tm (Tm.same s1)
    refine w_b (fun h => by cases (show false = true from h)) (fun _ => ?_)
    walk_at "w"
    refine t_ixS (n := 0) hd1 rfl ?_
    walk_at "w"
    refine t_len hd1 ?_
    walk_at "w"
    refine w_dec (fun _ => ?_) (fun z => absurd rfl z)
    walk_at "w"
    refine t_ix (n := 1) hd1 rfl (fun y ty => ?_)
    walk_at "w"
    refine w_isi ty.ty (kit_int h h') ?_
    walk_at "w"
    rw [decide_eq_true rfl]
    walk_at "w"
    exact hQ H1 s1
  | bnd =>
    rename_i i
    refine w_isi hd.ty_tup kit_tt ?_
    walk_at "w"
    refine t_len hd ?_
    walk_at "w"
    refine n_T (fun p H1 hp s1 e1 => ?_)
    refine w_nin23 (SqT.of e1) ?_
    walk_at "w"
    have hd1 := hd.tm (Tm.same s1)
    refine w_b (fun h => by cases (show false = true from h)) (fun _ => ?_)
    walk_at "w"
    refine t_ixS (n := 0) hd1 rfl ?_
    walk_at "w"
    refine t_len hd1 ?_
    walk_at "w"
    refine w_dec (fun _ => ?_) (fun z => absurd rfl z)
    walk_at "w"
    refine t_ixI (n := 1) hd1 rfl ?_
    walk_at "w"
    refine w_isi (.base (.int _)) kit_ii ?_
    walk_at "w"
    refine w_isi (.base (.int _)) kit_ib ?_
    walk_at "w"
    rw [decide_eq_true rfl]
    walk_at "w"
    have hQ1 := hQ H1 s1
    by_cases h1 : (0 : Int) ≤ i
    · rw [decide_eq_true h1]
      walk_at "w"
      by_cases h2 : i < (l : Int)
      · rw [decide_eq_true h2]
        rw [decide_eq_true ⟨h1, h2⟩] at hQ1
        exact hQ1
      · rw [decide_eq_false h2]
        rw [decide_eq_false (fun z => h2 z.2)] at hQ1
        exact hQ1
    · rw [decide_eq_false h1]
      walk_at "w"
      rw [decide_eq_false (fun z => h1 z.1)] at hQ1
      exact hQ1
  | three h1 h2 h3 h4 =>
    refine w_isi hd.ty_tup kit_tt ?_
    walk_at "w"
    refine t_len hd ?_
    walk_at "w"
    refine n_T (fun p H1 hp s1 e1 => ?_)
    refine w_nin23 (SqT.of e1) ?_
    walk_at "w"
    have hd1 := hd.tm (Tm.same s1)
    refine w_b (fun h => by cases (show false = true from h)) (fun _ => ?_)
    walk_at "w"
    refine t_ixS (n := 0) hd1 rfl ?_
    walk_at "w"
    refine t_len hd1 ?_
    walk_at "w"
    refine w_dec (fun z => by exact absurd (show (3 : Int) = 2 from z) (by decide)) (fun _ => ?_)
    walk_at "w"
    rw [decide_eq_false h1]
    walk_at "w"
    rw [decide_eq_false h2]
    walk_at "w"
    rw [decide_eq_false h3]
    walk_at "w"
    rw [decide_eq_false h4]
    walk_at "w"
    exact hQ H1 s1
  | app =>
    refine w_isi hd.ty_tup kit_tt ?_
    walk_at "w"
    refine t_len hd ?_
    walk_at "w"
    refine n_T (fun p H1 hp s1 e1 => ?_)
    refine w_nin23 (SqT.of e1) ?_
    walk_at "w"
    have hd1 := hd.tm (Tm.same s1)
    refine w_b (fun h => by cases (show false = true from h)) (fun _ => ?_)
    walk_at "w"
    refine t_ixS (n := 0) hd1 rfl ?_
    walk_at "w"
    refine t_len hd1 ?_
    walk_at "w"
    refine w_dec (fun z => by exact absurd (show (3 : Int) = 2 from z) (by decide)) (fun _ => ?_)
    walk_at "w"
    rw [decide_eq_false (by decide)]
    walk_at "w"
    rw [decide_eq_false (by decide)]
    walk_at "w"
    rw [decide_eq_false (by decide)]
    walk_at "w"
    rw [decide_eq_true rfl]
    walk_at "w"
    exact hQ H1 s1
  | lam h =>
    refine w_isi hd.ty_tup kit_tt ?_
    walk_at "w"
    refine t_len hd ?_
    walk_at "w"
    refine n_T (fun p H1 hp s1 e1 => ?_)
    refine w_nin23 (SqT.of e1) ?_
    walk_at "w"
    have hd1 := hd.tm (Tm.same s1)
    refine w_b (fun h => by cases (show false = true from h)) (fun _ => ?_)
    walk_at "w"
    refine t_ixS (n := 0) hd1 rfl ?_
    walk_at "w"
    refine t_len hd1 ?_
    walk_at "w"
    refine w_dec (fun z => by exact absurd (show (3 : Int) = 2 from z) (by decide)) (fun _ => ?_)
    walk_at "w"
    rw [decide_eq_false (by decide)]
    walk_at "w"
    rw [decide_eq_false (by decide)]
    walk_at "w"
    rw [decide_eq_true rfl]
    walk_at "w"
    refine t_ix (n := 1) hd1 rfl (fun y ty => ?_)
    walk_at "w"
    refine ⟨_, rfl, _, _, ty, h, fun H3 s3 => ?_⟩
    walk_at "w"
    exact hQ H3 (s1.tr s3)
  | varO h =>
    refine w_isi hd.ty_tup kit_tt ?_
    walk_at "w"
    refine t_len hd ?_
    walk_at "w"
    refine n_T (fun p H1 hp s1 e1 => ?_)
    refine w_nin23 (SqT.of e1) ?_
    walk_at "w"
    have hd1 := hd.tm (Tm.same s1)
    refine w_b (fun h => by cases (show false = true from h)) (fun _ => ?_)
    walk_at "w"
    refine t_ixS (n := 0) hd1 rfl ?_
    walk_at "w"
    refine t_len hd1 ?_
    walk_at "w"
    refine w_dec (fun z => by exact absurd (show (3 : Int) = 2 from z) (by decide)) (fun _ => ?_)
    walk_at "w"
    rw [decide_eq_true rfl]
    walk_at "w"
    refine t_ix (n := 1) hd1 rfl (fun y ty => ?_)
    walk_at "w"
    refine ⟨_, rfl, .inr ⟨_, ty, h, ?_⟩⟩
    walk_at "w"
    exact hQ H1 s1
  | varN hl h =>
    refine w_isi hd.ty_tup kit_tt ?_
    walk_at "w"
    refine t_len hd ?_
    walk_at "w"
    refine n_T (fun p H1 hp s1 e1 => ?_)
    refine w_nin23 (SqT.of e1) ?_
    walk_at "w"
    have hd1 := hd.tm (Tm.same s1)
    refine w_b (fun h => by cases (show false = true from h)) (fun _ => ?_)
    walk_at "w"
    refine t_ixS (n := 0) hd1 rfl ?_
    walk_at "w"
    refine t_len hd1 ?_
    walk_at "w"
    refine w_dec (fun z => by exact absurd (show (3 : Int) = 2 from z) (by decide)) (fun _ => ?_)
    walk_at "w"
    rw [decide_eq_true rfl]
    walk_at "w"
    refine t_ixS (n := 1) hd1 rfl ?_
    walk_at "w"
    refine ⟨_, rfl, .inl ⟨_, rfl, by omega, ?_⟩⟩
    rw [h]
    walk_at "w"
    exact hQ H1 s1
  | var h k =>
    refine w_isi hd.ty_tup kit_tt ?_
    walk_at "w"
    refine t_len hd ?_
    walk_at "w"
    refine n_T (fun p H1 hp s1 e1 => ?_)
    refine w_nin23 (SqT.of e1) ?_
    walk_at "w"
    have hd1 := hd.tm (Tm.same s1)
    refine w_b (fun h => by cases (show false = true from h)) (fun _ => ?_)
    walk_at "w"
    refine t_ixS (n := 0) hd1 rfl ?_
    walk_at "w"
    refine t_len hd1 ?_
    walk_at "w"
    refine w_dec (fun z => by exact absurd (show (3 : Int) = 2 from z) (by decide)) (fun _ => ?_)
    walk_at "w"
    rw [decide_eq_true rfl]
    walk_at "w"
    refine t_ixS (n := 1) hd1 rfl ?_
    walk_at "w"
    refine ⟨_, rfl, .inl ⟨_, rfl, by have := (name_cok h).2; omega, ?_⟩⟩
    rw [h]
    walk_at "w"
    refine t_ix (n := 2) hd1 rfl (fun y ty => ?_)
    walk_at "w"
    refine ⟨_, rfl, _, _, ty, k, fun H3 s3 => ?_⟩
    walk_at "w"
    exact hQ H3 (s1.tr s3)
  | cstO h hs =>
    refine w_isi hd.ty_tup kit_tt ?_
    walk_at "w"
    refine t_len hd ?_
    walk_at "w"
    refine n_T (fun p H1 hp s1 e1 => ?_)
    refine w_nin23 (SqT.of e1) ?_
    walk_at "w"
    have hd1 := hd.tm (Tm.same s1)
    refine w_b (fun h => by cases (show false = true from h)) (fun _ => ?_)
    walk_at "w"
    refine t_ixS (n := 0) hd1 rfl ?_
    walk_at "w"
    refine t_len hd1 ?_
    walk_at "w"
    refine w_dec (fun z => by exact absurd (show (3 : Int) = 2 from z) (by decide)) (fun _ => ?_)
    walk_at "w"
    rw [decide_eq_false (by decide)]
    walk_at "w"
    rw [decide_eq_true rfl]
    walk_at "w"
    refine t_ix (n := 1) hd1 rfl (fun y ty => ?_)
    walk_at "w"
    refine ⟨_, rfl, .inr ⟨_, ty, h, ?_⟩⟩
    walk_at "w"
    refine t_ix (n := 1) hd1 rfl (fun z tz => ?_)
    walk_at "w"
    refine ⟨_, _, ⟨tz.dp, hs.1, by have := hs.2; omega⟩, logic_dp T H1, ?_⟩
    rw [logic_anyO h]
    walk_at "w"
    exact hQ H1 s1
  | cstN hl hc h h' =>
    refine w_isi hd.ty_tup kit_tt ?_
    walk_at "w"
    refine t_len hd ?_
    walk_at "w"
    refine n_T (fun p H1 hp s1 e1 => ?_)
    refine w_nin23 (SqT.of e1) ?_
    walk_at "w"
    have hd1 := hd.tm (Tm.same s1)
    refine w_b (fun h => by cases (show false = true from h)) (fun _ => ?_)
    walk_at "w"
    refine t_ixS (n := 0) hd1 rfl ?_
    walk_at "w"
    refine t_len hd1 ?_
    walk_at "w"
    refine w_dec (fun z => by exact absurd (show (3 : Int) = 2 from z) (by decide)) (fun _ => ?_)
    walk_at "w"
    rw [decide_eq_false (by decide)]
    walk_at "w"
    rw [decide_eq_true rfl]
    walk_at "w"
    refine t_ixS (n := 1) hd1 rfl ?_
    walk_at "w"
    refine ⟨_, rfl, .inl ⟨_, rfl, by omega, ?_⟩⟩
    rw [h]
    walk_at "w"
    refine t_ixS (n := 1) hd1 rfl ?_
    walk_at "w"
    refine ⟨_, _, ⟨.str _, sz_str (n := 180) hc⟩, logic_dp T H1, ?_⟩
    rw [logic_any, decide_eq_false h']
    walk_at "w"
    exact hQ H1 s1
  | cst hl h k =>
    rename_i w' y
    refine w_isi hd.ty_tup kit_tt ?_
    walk_at "w"
    refine t_len hd ?_
    walk_at "w"
    refine n_T (fun p H1 hp s1 e1 => ?_)
    refine w_nin23 (SqT.of e1) ?_
    walk_at "w"
    have hd1 := hd.tm (Tm.same s1)
    refine w_b (fun h => by cases (show false = true from h)) (fun _ => ?_)
    walk_at "w"
    refine t_ixS (n := 0) hd1 rfl ?_
    walk_at "w"
    refine t_len hd1 ?_
    walk_at "w"
    refine w_dec (fun z => by exact absurd (show (3 : Int) = 2 from z) (by decide)) (fun _ => ?_)
    walk_at "w"
    rw [decide_eq_false (by decide)]
    walk_at "w"
    rw [decide_eq_true rfl]
    walk_at "w"
    refine t_ixS (n := 1) hd1 rfl ?_
    walk_at "w"
    refine ⟨_, rfl, .inl ⟨_, rfl, by omega, ?_⟩⟩
    walk_at "w"
    by_cases h5 : isName w' = true
    · rw [h5]
      walk_at "w"
      refine t_ix (n := 2) hd1 rfl (fun y ty => ?_)
      walk_at "w"
      refine ⟨_, rfl, _, _, ty, k, fun H3 s3 => ?_⟩
      walk_at "w"
      exact hQ H3 (s1.tr s3)
    · have h6 : w' ∈ LOGIC := h.elim (fun z => absurd z h5) id
      have hc : Cok w' := fun c hc => by
        have : ∀ w ∈ LOGIC, ∀ c ∈ w, c < 256 := by decide
        exact this w' h6 c hc
      rw [show isName w' = false by cases q : isName w' <;> first | rfl | exact absurd q h5]
      walk_at "w"
      refine t_ixS (n := 1) hd1 rfl ?_
      walk_at "w"
      refine ⟨_, _, ⟨.str _, sz_str (n := 180) hc⟩, logic_dp T H1, ?_⟩
      rw [logic_any, decide_eq_true h6]
      walk_at "w"
      refine t_ix (n := 2) hd1 rfl (fun y ty => ?_)
      walk_at "w"
      refine ⟨_, rfl, _, _, ty, k, fun H3 s3 => ?_⟩
      walk_at "w"
      exact hQ H3 (s1.tr s3)

end
end K02

namespace K02
open PySem PySem.Spec PyProof.Rows L2 SX
local macro_rules | `(tactic| walk_at "w1") => `(tactic| (first
  | with_reducible refine w_seq ?_ | with_reducible refine w_asgN ?_ | with_reducible refine w_c ?_
  | ((with_reducible refine' w_var ?wv ?_); (case wv => exact rfl))
  | with_reducible refine w_op ?_ | with_reducible refine w_un ?_ | with_reducible refine w_next ?_ | with_reducible refine w_brk ?_ | with_reducible refine w_cnt ?_
  | with_reducible refine w_ifS ?_ | with_reducible refine w_if ?_ | with_reducible refine w_test ?_ | with_reducible refine w_tB ?_ | with_reducible refine w_bl ?_ | with_reducible refine w_blI ?_
  | with_reducible refine w_and ?_ | with_reducible refine w_or ?_ | with_reducible refine w_not ?_ | with_reducible refine w_andV ?_ | with_reducible refine w_orV ?_ | with_reducible refine w_notV ?_
  | with_reducible refine w_nil ?_ | with_reducible refine w_cons ?_ | with_reducible refine w_cb ?_ | with_reducible refine w_call ?_ | with_reducible refine w_callS ?_ | with_reducible refine w_chain ?_
  | with_reducible refine w_tupN ?_ | with_reducible refine w_lstN ?_ | with_reducible refine w_sl ?_ | with_reducible refine w_noPart ?_ | with_reducible refine w_part ?_ | with_reducible refine w_partI ?_
  | with_reducible refine w_ret ?_ | with_reducible refine w_retN ?_ | with_reducible refine w_drop ?_ | with_reducible refine w_asg ?_ | with_reducible refine w_gSub ?_
  | ((with_reducible refine' w_aug ?wv ?_); (case wv => exact rfl)) | with_reducible refine w_ipI ?_
  | with_reducible refine w_addI ?_ | with_reducible refine w_subI ?_ | with_reducible refine w_ltI ?_ | with_reducible refine w_leI ?_ | with_reducible refine w_gtI ?_ | with_reducible refine w_geI ?_
  | with_reducible refine w_eqI ?_ | with_reducible refine w_neI ?_ | with_reducible refine w_eqT ?_ | with_reducible refine w_neT ?_ | with_reducible refine w_inS ?_ | with_reducible refine w_ninS ?_
  | with_reducible refine w_absI ?_ | with_reducible refine w_intI ?_ | with_reducible refine w_maxI ?_ | with_reducible refine w_minI ?_
  | with_reducible refine w_for ?_ | with_reducible refine w_iR1 ?_ | with_reducible refine w_iR2 ?_ | with_reducible refine w_iStr ?_ | with_reducible refine w_strI ?_ | with_reducible refine w_iList ?_ | with_reducible refine w_iTup ?_
  | with_reducible refine w_bm ?_ | with_reducible refine w_bm0 ?_ | with_reducible refine w_t ?_ | with_reducible refine w_f ?_ | with_reducible refine w_nt ?_ | with_reducible refine w_nx ?_ | with_reducible refine w_rt ?_ | with_reducible refine w_bk ?_ | with_reducible refine w_ct ?_ | with_reducible refine w_nf ?_ | with_reducible refine w_lc ?_ | with_reducible refine w_yes ?_ | with_reducible refine w_neg ?_ | with_reducible refine w_intB ?_ | with_reducible refine w_fld ?_ | with_reducible refine w_setf ?_ | with_reducible refine w_faug ?_ | with_reducible refine w_meth ?_ | with_reducible refine w_bmS ?_ | with_reducible refine w_start ?_ | with_reducible refine w_revL ?_ | with_reducible refine w_iR3 ?_))
local macro_rules | `(tactic| walk_at "w") => `(tactic| (repeat (first | walk_at "w1" | dsimp (config := { proj := false }) only [List.set_cons_zero, List.set_cons_succ])))
section
variable {w : World} {K : PySem.W.Frag} {mg : Str → Option Value} {base : Heap}

def wm (es : List (Gt × Nat)) : List PyData := es.map fun e => .tuple [(upT e.1).d, .int (e.2 : Int)]
def ns (es : List (Gt × Nat)) : Nat := (es.map fun e => e.1.nodes).sum
def dg (es : List (Gt × Nat)) : Nat := dm (fun e : Gt × Nat => e.1.dep) (fun e => e.2) es
theorem ns_app (a b : List (Gt × Nat)) : ns (a ++ b) = ns a + ns b := by unfold ns; rw [List.map_append, List.sum_append]
theorem snoc_of {α : Type} {l : List α} (h : l ≠ []) : ∃ as a, l = as ++ [a] := ⟨_, _, (List.dropLast_concat_getLast h).symm⟩
theorem map_ne {α β : Type} {f : α → β} {l : List α} : (decide (l.map f ≠ [])) = decide (l ≠ []) := by cases l <;> rfl
theorem app_d (f a : PTr) : (Tr.app f a : PTr).d = .tuple [.str (S wAPP), f.d, a.d] := rfl
theorem lam_d (k : PyData) (b : PTr) : (Tr.lam k b : PTr).d = .tuple [.str (S wLAM), k, b.d] := rfl
theorem w_un2 {K : PySem.W.Frag} {n i j : Nat} {σ : L2.St} {H : Hp} {q : Addr} {y z : V} {N : L2.St → Hp → Prop} (hn : n = 2) (hq : H q = some (.tup [y, z])) (h : N ((σ.set i (some y)).set j (some z)) H) : gTup K n (gCons (gName i) (gCons (gName j) gNil)) (.ref q) σ H N := by
  subst hn; exact ⟨q, _, rfl, SqT.of hq, rfl, _, _, rfl, _, _, rfl, rfl, h⟩
theorem w_un3 {K : PySem.W.Frag} {n i j k : Nat} {σ : L2.St} {H : Hp} {q : Addr} {x y z : V} {N : L2.St → Hp → Prop} (hn : n = 3) (hq : H q = some (.tup [x, y, z])) (h : N (((σ.set i (some x)).set j (some y)).set k (some z)) H) : gTup K n (gCons (gName i) (gCons (gName j) (gCons (gName k) gNil))) (.ref q) σ H N := by
  subst hn; exact ⟨q, _, rfl, SqT.of hq, rfl, _, _, rfl, _, _, rfl, _, _, rfl, rfl, h⟩
def sp_measure : Sp := sp1 fun x H Q _ => ∃ g : Gt, TD H x (upT g).d ∧ g.nodes ≤ 50000 ∧ ∀ v H', Same H H' → TD H' v (.tuple [.int (g.nodes : Int), .int (g.dep : Int)]) → Q v H'
theorem ok_measure (T : Txt w K mg) {fd : FuncData} (F : Fn_measure K fd) (hm : mg "measure" = some (.ref (He.ga K "measure")))  : CalX P w K mg base CX0 1 "measure" sp_measure := by
  refine calx0 (k := 0) F hm sc_measure (b_measure F) (fun _ _ _ _ h => sp1_len h) (fun cdv A outer s H vs Q E hr h => ?_)
  obtain ⟨x0, rfl, h⟩ := h
  refine ⟨_, (pss_cons (ps_set (i := 1) sc_measure.nd rfl (Or.inl rfl) pe_int)
    (pss_cons (ps_set (i := 2) sc_measure.nd rfl (Or.inl rfl) pe_int)
    (pss_cons (ps_set (i := 3) sc_measure.nd rfl (Or.inl rfl) (pe_lst (pa_cons (pe_tup (pa_cons (pv 0) (pa_cons pe_int pa_nil))) pa_nil)))
    (pss_cons (ps_while PassesOwn.never (pt_truth (pv 3) (by intro _; rfl))
    (pss_cons (ps_asg (pe_bm0 PySem.F.plainAttrs_list PySem.F.slot_list_pop PySem.F.type_list_pop mt_pop (pv 3)) (pg_tup (by rfl) (pgs_cons (pg_name (i := 4) sc_measure.nd rfl (Or.inl rfl)) (pgs_cons (pg_name (i := 5) sc_measure.nd rfl (Or.inl rfl)) pgs_nil))))
    (pss_cons (ps_aug (i := 1) sc_measure.nd rfl (Or.inl rfl) pe_int ip_add)
    (pss_cons (ps_set (i := 2) sc_measure.nd rfl (Or.inl rfl) (pe_callB (call_maxI rfl) (by rfl) T.f_max (by decide +kernel) (pa_cons (pv 2) (pa_cons (pv 5) pa_nil))))
    (pss_one (ps_if (pt_cmpR op_eq (pe_ix ix_tup (pv 4) pe_int (fun _ _ => rfl)) pe_str (nomark _))
    (pss_cons (ps_expr (pe_bm PySem.F.plainAttrs_list PySem.F.slot_list_append PySem.F.type_list_append mt_append (pv 3) (pa_cons (pe_tup (pa_cons (pe_ix ix_tup (pv 4) pe_int (fun _ _ => rfl)) (pa_cons (pe_op op_addI (pv 5) pe_int) pa_nil))) pa_nil)))
    (pss_one (ps_expr (pe_bm PySem.F.plainAttrs_list PySem.F.slot_list_append PySem.F.type_list_append mt_append (pv 3) (pa_cons (pe_tup (pa_cons (pe_ix ix_tup (pv 4) pe_int (fun _ _ => rfl)) (pa_cons (pe_op op_addI (pv 5) pe_int) pa_nil))) pa_nil)))))
    (pss_one (ps_if (pt_cmpR op_eq (pe_ix ix_tup (pv 4) pe_int (fun _ _ => rfl)) pe_str (nomark _))
    (pss_one (ps_expr (pe_bm PySem.F.plainAttrs_list PySem.F.slot_list_append PySem.F.type_list_append mt_append (pv 3) (pa_cons (pe_tup (pa_cons (pe_ix ix_tup (pv 4) pe_int (fun _ _ => rfl)) (pa_cons (pe_op op_addI (pv 5) pe_int) pa_nil))) pa_nil))))
    pss_nil))))))))
    (pss_one (ps_ret (pe_tup (pa_cons (pv 1) (pa_cons (pv 2) pa_nil))))))))), ?_⟩
  rw [show start ["term", "many", "deepest", "waiting", "part", "depth"] [x0] = [some x0, none, none, none, none, none] from rfl]
  have ec0 : Str.ofString "app" = S [97,112,112] := S_ofs (by decide +kernel)
  have ec1 : Str.ofString "lam" = S [108,97,109] := S_ofs (by decide +kernel)
  rw [ec0, ec1]
  obtain ⟨g, hd, hz, hQ⟩ := h
  try dsimp only [cxOf]
  walk_at "w"
  refine t_new (ds := [(upT g).d, .int 1]) (.cons hd (.cons (.int _) .nil)) (fun p1 H1 hp1 s1 t1 => ?_)
  walk_at "w"
  refine l_new (ds := wm [(g, 1)]) (.cons t1 .nil) (fun p H2 hp s2 d2 => ?_)
  walk_at "w"
  have hp0 : H p = none := by
    cases e : H p with
    | none => rfl
    | some o => rw [s1 p o e] at hp; cases hp
  refine w_whl (fun m σ H' => ∃ (es : List (Gt × Nat)) (many deep : Nat) (v1 v2 : Option V), m = ns es ∧ σ = [some x0, some (.int (many : Int)), some (.int (deep : Int)), some (.ref p), v1, v2] ∧ Same H H' ∧ DL H' p (wm es) ∧ es.length ≤ many + 1 ∧ many + ns es = g.nodes ∧ max (deep + 1) (dg es) = g.dep + 1 ∧ ∀ e ∈ es, 1 ≤ e.2)
    g.nodes ⟨[(g, 1)], 0, 0, none, none, by simp [ns], rfl, s1.tr s2, d2, Nat.le_refl _, by simp [ns], by show max 1 (max (1 + g.dep) 0) = _; omega, by intro e he; rw [List.mem_singleton.mp he]; exact Nat.le_refl _⟩ ?_
  rintro m σ H3 ⟨es, many, deep, v1, v2, rfl, rfl, s3, d3, hl, hn, hdp, hpos⟩
  walk_at "w"
  refine l_truth d3 ?_
  rw [show decide (wm es ≠ []) = decide (es ≠ []) from map_ne]
  by_cases he : es = []
  · subst he
    rw [decide_eq_false (by simp)]
    walk_at "w"
    have h1 : many = g.nodes := by simpa [ns] using hn
    have h2 : deep = g.dep := by have : max (deep + 1) 0 = g.dep + 1 := hdp; omega
    refine t_new (ds := [.int (many : Int), .int (deep : Int)]) (.cons (.int _) (.cons (.int _) .nil)) (fun p4 H4 hp4 s4 t4 => ?_)
    rw [h1, h2] at t4
    exact hQ _ H4 (s3.tr s4) t4
  obtain ⟨es, ⟨e, dp⟩, rfl⟩ := snoc_of he
  rw [decide_eq_true he]
  have hdp1 : 1 ≤ dp := hpos (e, dp) (by simp)
  have hpos' : ∀ e ∈ es, 1 ≤ e.2 := fun e' he' => hpos e' (List.mem_append_left _ he')
  rw [ns_app] at hn
  have hn : many + (ns es + e.nodes) = g.nodes := by simpa [ns] using hn
  unfold dg at hdp
  rw [dm_app] at hdp
  have hdp : max (deep + 1) (max (dg es) (max (dp + e.dep) 0)) = g.dep + 1 := hdp
  have hl : es.length ≤ many := by simpa using hl
  walk_at "w"
  refine w_turn ?_
  walk_at "w"
  refine l_ty d3 ?_
  have d3 : DL H3 p (wm es ++ [.tuple [(upT e).d, .int (dp : Int)]]) := by unfold wm at d3; rw [List.map_append] at d3; exact d3
  walk_at "w"
  refine l_pop d3 (fun x H4 tx d4 x4 => ?_)
  have s4 := s3.ex hp0 x4
  obtain ⟨q, qs, rfl, hq, tqs⟩ := tx.tuple
  obtain ⟨y, z, rfl, ty, tz⟩ := tqs.two
  rw [tz.num] at hq
  refine w_un2 rfl hq ?_
  walk_at "w"
  have e1 : (many : Int) + 1 = ((many + 1 : Nat) : Int) := by omega
  have e2 : (if (dp : Int) > (deep : Int) then (dp : Int) else (deep : Int)) = ((max deep dp : Nat) : Int) := by split <;> omega
  rw [e1, e2]
  have sub : ∀ {es' : List (Gt × Nat)} {H' : Hp} {v1 v2 : Option V}, Same H H' → DL H' p (wm (es ++ es')) → es'.length ≤ 2 → ns es' + 1 = e.nodes → max (dp + 1) (dg es') = dp + e.dep → (∀ e ∈ es', 1 ≤ e.2) →
      ∃ m', m' < ns (es ++ [(e, dp)]) ∧ ∃ (es : List (Gt × Nat)) (many' dq : Nat) (u1 u2 : Option V), m' = ns es ∧ [some x0, some (.int ((many + 1 : Nat) : Int)), some (.int ((max deep dp : Nat) : Int)), some (.ref p), v1, v2] = [some x0, some (.int (many' : Int)), some (.int (dq : Int)), some (.ref p), u1, u2] ∧ Same H H' ∧ DL H' p (wm es) ∧ es.length ≤ many' + 1 ∧ many' + ns es = g.nodes ∧ max (dq + 1) (dg es) = g.dep + 1 ∧ ∀ e ∈ es, 1 ≤ e.2 := fun {es' H' v1 v2} q1 q2 q3 q4 q5 q6 => by
    refine ⟨_, ?_, es ++ es', many + 1, max deep dp, v1, v2, rfl, rfl, q1, q2, by rw [List.length_append]; omega, by rw [ns_app]; omega, ?_, ?_⟩
    · rw [ns_app, ns_app]
      have : ns [(e, dp)] = e.nodes := by simp [ns]
      omega
    · unfold dg; rw [dm_app]
      show max (max deep dp + 1) (max (dg es) (dg es')) = g.dep + 1
      omega
    · intro e' he'
      rcases List.mem_append.mp he' with he' | he'
      · exact hpos' e' he'
      · exact q6 e' he'
  cases e with
  | app f a =>
    rw [show (upT (.app f a)).d = .tuple [.str (S wAPP), (upT f).d, (upT a).d] from rfl] at ty
    refine t_ixS (n := 0) ty rfl ?_
    walk_at "w"
    rw [decide_eq_true rfl]
    walk_at "w"
    refine l_ty d4 ?_
    walk_at "w"
    refine t_ix (n := 2) ty rfl (fun ya ta => ?_)
    walk_at "w"
    refine t_new (ds := [(upT a).d, .int ((dp + 1 : Nat) : Int)]) (.cons ta (.cons (.int _) .nil)) (fun p5 H5 hp5 s5 t5 => ?_)
    walk_at "w"
    refine l_app (d4.same s5) t5 (fun H6 d6 x6 => ?_) (by unfold wm; rw [List.length_map]; omega)
    walk_at "w"
    have tm6 : Tm H4 H6 := (Tm.same s5).tr ((d4.same s5).tm_ex x6)
    refine l_ty d6 ?_
    walk_at "w"
    refine t_ix (n := 1) (ty.tm tm6) rfl (fun yf tf => ?_)
    walk_at "w"
    refine t_new (ds := [(upT f).d, .int ((dp + 1 : Nat) : Int)]) (.cons tf (.cons (.int _) .nil)) (fun p7 H7 hp7 s7 t7 => ?_)
    walk_at "w"
    refine l_app (d6.same s7) t7 (fun H8 d8 x8 => ?_) (by unfold wm; rw [List.length_append, List.length_map]; show es.length + 1 ≤ 100000; omega)
    walk_at "w"
    refine sub (es' := [(a, dp + 1), (f, dp + 1)]) ((((s4.tr s5).ex hp0 x6).tr s7).ex hp0 x8) ?_ (Nat.le_refl _) ?_ ?_ ?_
    · unfold wm; rw [List.map_append]; rw [List.append_assoc] at d8; exact d8
    · show (a.nodes + (f.nodes + 0)) + 1 = f.nodes + a.nodes + 1; omega
    · have := f.dep_pos; have := a.dep_pos
      show max (dp + 1) (max (dp + 1 + a.dep) (max (dp + 1 + f.dep) 0)) = dp + (max f.dep a.dep + 1); omega
    · intro e' he'; simp at he'; rcases he' with rfl | rfl <;> exact Nat.succ_pos _
  | lam k b =>
    rw [show (upT (.lam k b)).d = .tuple [.str (S wLAM), k.d, (upT b).d] from rfl] at ty
    refine t_ixS (n := 0) ty rfl ?_
    walk_at "w"
    rw [decide_eq_false (by decide)]
    walk_at "w"
    refine t_ixS (n := 0) ty rfl ?_
    walk_at "w"
    rw [decide_eq_true rfl]
    walk_at "w"
    refine l_ty d4 ?_
    walk_at "w"
    refine t_ix (n := 2) ty rfl (fun ya ta => ?_)
    walk_at "w"
    refine t_new (ds := [(upT b).d, .int ((dp + 1 : Nat) : Int)]) (.cons ta (.cons (.int _) .nil)) (fun p5 H5 hp5 s5 t5 => ?_)
    walk_at "w"
    refine l_app (d4.same s5) t5 (fun H6 d6 x6 => ?_) (by unfold wm; rw [List.length_map]; omega)
    walk_at "w"
    refine sub (es' := [(b, dp + 1)]) ((s4.tr s5).ex hp0 x6) ?_ (by show 1 ≤ 2; omega) ?_ ?_ ?_
    · unfold wm; rw [List.map_append]; exact d6
    · show (b.nodes + 0) + 1 = b.nodes + 1; omega
    · have := b.dep_pos
      show max (dp + 1) (max (dp + 1 + b.dep) 0) = dp + (b.dep + 1); omega
    · intro e' he'; rw [List.mem_singleton.mp he']; exact Nat.succ_pos _
  | tip l =>
    obtain ⟨s0, r, e0, n1, n2, _⟩ := lf_tip l
    rw [show (upT (.tip l)).d = l.d from rfl, e0] at ty
    refine t_ixS (n := 0) ty rfl ?_
    walk_at "w"
    rw [decide_eq_false n1]
    walk_at "w"
    refine t_ixS (n := 0) ty rfl ?_
    walk_at "w"
    rw [decide_eq_false n2]
    walk_at "w"
    refine sub (es' := []) s4 (by rw [List.append_nil]; exact d4) (Nat.zero_le _) rfl ?_ (fun e' he' => by cases he')
    show max (dp + 1) 0 = dp + 1; omega
end
end K02

namespace K02
open PySem PySem.Spec PyProof.Rows L2 SX
local macro_rules | `(tactic| walk_at "w1") => `(tactic| (first
  | with_reducible refine w_seq ?_ | with_reducible refine w_asgN ?_ | with_reducible refine w_c ?_
  | ((with_reducible refine' w_var ?wv ?_); (case wv => exact rfl))
  | with_reducible refine w_op ?_ | with_reducible refine w_un ?_ | with_reducible refine w_next ?_ | with_reducible refine w_brk ?_ | with_reducible refine w_cnt ?_
  | with_reducible refine w_ifS ?_ | with_reducible refine w_if ?_ | with_reducible refine w_test ?_ | with_reducible refine w_tB ?_ | with_reducible refine w_bl ?_ | with_reducible refine w_blI ?_
  | with_reducible refine w_and ?_ | with_reducible refine w_or ?_ | with_reducible refine w_not ?_ | with_reducible refine w_andV ?_ | with_reducible refine w_orV ?_ | with_reducible refine w_notV ?_
  | with_reducible refine w_nil ?_ | with_reducible refine w_cons ?_ | with_reducible refine w_cb ?_ | with_reducible refine w_call ?_ | with_reducible refine w_callS ?_ | with_reducible refine w_chain ?_
  | with_reducible refine w_tupN ?_ | with_reducible refine w_lstN ?_ | with_reducible refine w_sl ?_ | with_reducible refine w_noPart ?_ | with_reducible refine w_part ?_ | with_reducible refine w_partI ?_
  | with_reducible refine w_ret ?_ | with_reducible refine w_retN ?_ | with_reducible refine w_drop ?_ | with_reducible refine w_asg ?_ | with_reducible refine w_gSub ?_
  | ((with_reducible refine' w_aug ?wv ?_); (case wv => exact rfl)) | with_reducible refine w_ipI ?_
  | with_reducible refine w_addI ?_ | with_reducible refine w_subI ?_ | with_reducible refine w_ltI ?_ | with_reducible refine w_leI ?_ | with_reducible refine w_gtI ?_ | with_reducible refine w_geI ?_
  | with_reducible refine w_eqI ?_ | with_reducible refine w_neI ?_ | with_reducible refine w_eqT ?_ | with_reducible refine w_neT ?_ | with_reducible refine w_inS ?_ | with_reducible refine w_ninS ?_
  | with_reducible refine w_absI ?_ | with_reducible refine w_intI ?_ | with_reducible refine w_maxI ?_ | with_reducible refine w_minI ?_
  | with_reducible refine w_for ?_ | with_reducible refine w_iR1 ?_ | with_reducible refine w_iR2 ?_ | with_reducible refine w_iStr ?_ | with_reducible refine w_strI ?_ | with_reducible refine w_iList ?_ | with_reducible refine w_iTup ?_
  | with_reducible refine w_bm ?_ | with_reducible refine w_bm0 ?_ | with_reducible refine w_t ?_ | with_reducible refine w_f ?_ | with_reducible refine w_nt ?_ | with_reducible refine w_nx ?_ | with_reducible refine w_rt ?_ | with_reducible refine w_bk ?_ | with_reducible refine w_ct ?_ | with_reducible refine w_nf ?_ | with_reducible refine w_lc ?_ | with_reducible refine w_yes ?_ | with_reducible refine w_neg ?_ | with_reducible refine w_intB ?_ | with_reducible refine w_fld ?_ | with_reducible refine w_setf ?_ | with_reducible refine w_faug ?_ | with_reducible refine w_meth ?_ | with_reducible refine w_bmS ?_ | with_reducible refine w_start ?_ | with_reducible refine w_revL ?_ | with_reducible refine w_iR3 ?_))
local macro_rules | `(tactic| walk_at "w") => `(tactic| (repeat (first | walk_at "w1" | dsimp (config := { proj := false }) only [List.set_cons_zero, List.set_cons_succ])))
section
variable {w : World} {K : PySem.W.Frag} {mg : Str → Option Value} {base : Heap}

abbrev WE := PTr × Nat × Nat × Bool
def ww (es : List WE) : List PyData := es.map fun e => .tuple [e.1.d, .int (e.2.1 : Int), .int (e.2.2.1 : Int)]
def wn (es : List WE) : Nat := (es.map fun e => e.1.nodes).sum
theorem wn_app (a b : List WE) : wn (a ++ b) = wn a + wn b := by unfold wn; rw [List.map_append, List.sum_append]
/-- what is to come -/
def WOk (es : List WE) (many : Nat) : Prop := (∀ e ∈ es, e.2.2.2 = true) ∧ many + wn es ≤ 400 ∧ ∀ e ∈ es, e.2.1 + e.1.dep ≤ 51
def sp_made_well : Sp := sp1 fun x H Q _ => ∃ (t : PTr) (b : Bool), TD H x t.d ∧ AK t 0 b ∧ ∀ H', Same H H' → Q (.bl (b && decide (t.nodes ≤ 400 ∧ t.dep ≤ 50))) H'
theorem ok_made_well (T : Txt w K mg) {fd : FuncData} (F : Fn_made_well K fd) (hm : mg "_made_well" = some (.ref (He.ga K "_made_well"))) (c_form_ok : CalX P w K mg base CX0 4 "_form_ok" sp_form_ok) : CalX P w K mg base CX0 5 "_made_well" sp_made_well := by
  refine calx0 (k := 4) F hm sc_made_well (b_made_well F) (fun _ _ _ _ h => sp1_len h) (fun cdv A outer s H vs Q E hr h => ?_)
  obtain ⟨x0, rfl, h⟩ := h
  refine ⟨_, (pss_cons (ps_set (i := 1) sc_made_well.nd rfl (Or.inl rfl) pe_int)
    (pss_cons (ps_set (i := 2) sc_made_well.nd rfl (Or.inl rfl) (pe_lst (pa_cons (pe_tup (pa_cons (pv 0) (pa_cons pe_int (pa_cons pe_int pa_nil)))) pa_nil)))
    (pss_cons (ps_while PassesOwn.never (pt_truth (pv 2) (by intro _; rfl))
    (pss_cons (ps_asg (pe_bm0 PySem.F.plainAttrs_list PySem.F.slot_list_pop PySem.F.type_list_pop mt_pop (pv 2)) (pg_tup (by rfl) (pgs_cons (pg_name (i := 3) sc_made_well.nd rfl (Or.inl rfl)) (pgs_cons (pg_name (i := 4) sc_made_well.nd rfl (Or.inl rfl)) (pgs_cons (pg_name (i := 5) sc_made_well.nd rfl (Or.inl rfl)) pgs_nil)))))
    (pss_cons (ps_aug (i := 1) sc_made_well.nd rfl (Or.inl rfl) pe_int ip_add)
    (pss_cons (ps_if (PW.pt (pw_or (pt_cmpR op_gtI (pv 1) (pe_gv T.v_MAX_NODES) (nomark _)) (pw_or (pt_cmpR op_gtI (pv 4) (pe_gv T.v_MAX_DEPTH) (nomark _)) (pw_or1 (pt_not (pt_val (pe_cx c_form_ok hr (by decide) rfl pass0 (pa_cons (pv 3) (pa_cons (pv 5) pa_nil)))))))))
    (pss_one (ps_ret pe_bl))
    pss_nil)
    (pss_one (ps_if (pt_cmpR op_eq (pe_ix ix_tup (pv 3) pe_int (fun _ _ => rfl)) pe_str (nomark _))
    (pss_cons (ps_expr (pe_bm PySem.F.plainAttrs_list PySem.F.slot_list_append PySem.F.type_list_append mt_append (pv 2) (pa_cons (pe_tup (pa_cons (pe_ix ix_tup (pv 3) pe_int (fun _ _ => rfl)) (pa_cons (pe_op op_addI (pv 4) pe_int) (pa_cons (pv 5) pa_nil)))) pa_nil)))
    (pss_one (ps_expr (pe_bm PySem.F.plainAttrs_list PySem.F.slot_list_append PySem.F.type_list_append mt_append (pv 2) (pa_cons (pe_tup (pa_cons (pe_ix ix_tup (pv 3) pe_int (fun _ _ => rfl)) (pa_cons (pe_op op_addI (pv 4) pe_int) (pa_cons (pv 5) pa_nil)))) pa_nil)))))
    (pss_one (ps_if (pt_cmpR op_eq (pe_ix ix_tup (pv 3) pe_int (fun _ _ => rfl)) pe_str (nomark _))
    (pss_one (ps_expr (pe_bm PySem.F.plainAttrs_list PySem.F.slot_list_append PySem.F.type_list_append mt_append (pv 2) (pa_cons (pe_tup (pa_cons (pe_ix ix_tup (pv 3) pe_int (fun _ _ => rfl)) (pa_cons (pe_op op_addI (pv 4) pe_int) (pa_cons (pe_op op_addI (pv 5) pe_int) pa_nil)))) pa_nil))))
    pss_nil))))))))
    (pss_one (ps_ret pe_bl))))), ?_⟩
  rw [show start ["value", "many", "waiting", "part", "depth", "level"] [x0] = [some x0, none, none, none, none, none] from rfl]
  have ec0 : Str.ofString "app" = S [97,112,112] := S_ofs (by decide +kernel)
  have ec1 : Str.ofString "lam" = S [108,97,109] := S_ofs (by decide +kernel)
  rw [ec0, ec1]
  obtain ⟨t, b, hd, hk, hQ⟩ := h
  generalize hR : (b && decide (t.nodes ≤ 400 ∧ t.dep ≤ 50)) = R at hQ
  have hR0 : R = true ↔ WOk [(t, 1, 0, b)] 0 := by
    rw [← hR, Bool.and_eq_true, decide_eq_true_iff]
    unfold WOk wn
    simp only [List.map_cons, List.map_nil, List.sum_cons, List.sum_nil, List.mem_singleton, forall_eq]
    constructor
    · rintro ⟨q1, q2, q3⟩; exact ⟨q1, by omega, by omega⟩
    · rintro ⟨q1, q2, q3⟩; exact ⟨q1, by omega, by omega⟩
  try dsimp only [cxOf]
  walk_at "w"
  refine t_new (ds := [t.d, .int 1, .int 0]) (.cons hd (.cons (.int _) (.cons (.int _) .nil))) (fun p1 H1 hp1 s1 t1 => ?_)
  walk_at "w"
  refine l_new (ds := ww [(t, 1, 0, b)]) (.cons t1 .nil) (fun p H2 hp s2 d2 => ?_)
  walk_at "w"
  have hp0 : H p = none := by
    cases e : H p with
    | none => rfl
    | some o => rw [s1 p o e] at hp; cases hp
  refine w_whl (fun m σ H' => ∃ (es : List WE) (many : Nat) (v1 v2 v3 : Option V), m = wn es ∧ σ = [some x0, some (.int (many : Int)), some (.ref p), v1, v2, v3] ∧ Same H H' ∧ DL H' p (ww es) ∧ es.length ≤ many + 1 ∧ many ≤ 400 ∧ (R = true ↔ WOk es many) ∧ ∀ e ∈ es, AK e.1 e.2.2.1 e.2.2.2)
    t.nodes ⟨[(t, 1, 0, b)], 0, none, none, none, by simp [wn], rfl, s1.tr s2, d2, Nat.le_refl _, by omega, hR0, by intro e he; rw [List.mem_singleton.mp he]; exact hk⟩ ?_
  rintro m σ H3 ⟨es, many, v1, v2, v3, rfl, rfl, s3, d3, hl, hm4, hw, hak⟩
  walk_at "w"
  refine l_truth d3 ?_
  rw [show decide (ww es ≠ []) = decide (es ≠ []) from map_ne]
  by_cases he : es = []
  · subst he
    rw [decide_eq_false (by simp)]
    walk_at "w"
    have : R = true := hw.mpr ⟨(fun e he => by cases he), by simpa [wn] using hm4, (fun e he => by cases he)⟩
    rw [this] at hQ
    exact hQ H3 s3
  obtain ⟨es, ⟨e, dp, lv, c⟩, rfl⟩ := snoc_of he
  rw [decide_eq_true he]
  have hak' : ∀ e ∈ es, AK e.1 e.2.2.1 e.2.2.2 := fun e' he' => hak e' (List.mem_append_left _ he')
  have hke : AK e lv c := hak (e, dp, lv, c) (by simp)
  have hno : R = true → c = true ∧ many + (wn es + e.nodes) ≤ 400 ∧ dp + e.dep ≤ 51 := fun z => by
    obtain ⟨q1, q2, q3⟩ := hw.mp z
    rw [wn_app] at q2
    exact ⟨q1 (e, dp, lv, c) (by simp), by simpa [wn] using q2, q3 (e, dp, lv, c) (by simp)⟩
  have hl : es.length ≤ many := by simpa using hl
  walk_at "w"
  refine w_turn ?_
  walk_at "w"
  refine l_ty d3 ?_
  have d3 : DL H3 p (ww es ++ [.tuple [e.d, .int (dp : Int), .int (lv : Int)]]) := by unfold ww at d3; rw [List.map_append] at d3; exact d3
  walk_at "w"
  refine l_pop d3 (fun x H4 tx d4 x4 => ?_)
  have s4 := s3.ex hp0 x4
  obtain ⟨q, qs, rfl, hq, tqs⟩ := tx.tuple
  obtain ⟨y, z, u, rfl, ty, tz, tu⟩ := tqs.three
  rw [tz.num, tu.num] at hq
  refine w_un3 rfl hq ?_
  walk_at "w"
  rw [show (many : Int) + 1 = ((many + 1 : Nat) : Int) by omega]
  have fin : ∀ H', Same H H' → R ≠ true → Q (.bl false) H' := fun H' s z => by
    have : R = false := by cases R <;> first | rfl | exact absurd rfl z
    rw [this] at hQ; exact hQ H' s
  have hnp := e.nodes_pos
  have hdp := e.dep_pos
  refine w_dec (fun h1 => ?_) (fun h1 => ?_)
  · walk_at "w"
    exact fin _ s4 fun z => by have := (hno z).2.1; omega
  walk_at "w"
  refine w_dec (fun h2 => ?_) (fun h2 => ?_)
  · walk_at "w"
    exact fin _ s4 fun z => by have := (hno z).2.2; omega
  walk_at "w"
  obtain ⟨b0, hlf, hf, hpt⟩ := hke.root
  refine ⟨_, _, rfl, e.d, lv, b0, ty, rfl, hlf, fun H5 s5 => ?_⟩
  walk_at "w"
  refine w_b (fun h3 => ?_) (fun h3 => ?_)
  · walk_at "w"
    have h3 : b0 = false := by cases b0 <;> first | rfl | cases h3
    exact fin _ (s4.tr s5) fun z => by have := (hno z).1; rw [hf h3] at this; cases this
  have h3 : b0 = true := by cases b0 <;> first | rfl | cases h3
  have hpt := hpt h3
  have s5' := s4.tr s5
  have d5 := d4.same s5
  have ty5 := ty.tm (Tm.same s5)
  walk_at "w"
  have sub : ∀ {es' : List WE} {H' : Hp} {v1 v2 v3 : Option V}, Same H H' → DL H' p (ww (es ++ es')) → es'.length ≤ 2 → wn es' + 1 = e.nodes → (c = true ↔ ∀ e ∈ es', e.2.2.2 = true) → (dp + e.dep ≤ 51 ↔ dp ≤ 50 ∧ ∀ e ∈ es', e.2.1 + e.1.dep ≤ 51) → (∀ e ∈ es', AK e.1 e.2.2.1 e.2.2.2) →
      ∃ m', m' < wn (es ++ [(e, dp, lv, c)]) ∧ ∃ (es : List WE) (many' : Nat) (u1 u2 u3 : Option V), m' = wn es ∧ [some x0, some (.int ((many + 1 : Nat) : Int)), some (.ref p), v1, v2, v3] = [some x0, some (.int (many' : Int)), some (.ref p), u1, u2, u3] ∧ Same H H' ∧ DL H' p (ww es) ∧ es.length ≤ many' + 1 ∧ many' ≤ 400 ∧ (R = true ↔ WOk es many') ∧ ∀ e ∈ es, AK e.1 e.2.2.1 e.2.2.2 := fun {es' H' v1 v2 v3} q1 q2 q3 q4 q5 q6 q7 => by
    refine ⟨_, ?_, es ++ es', many + 1, v1, v2, v3, rfl, rfl, q1, q2, by rw [List.length_append]; omega, by omega, hw.trans ?_, fun e' he' => ?_⟩
    · rw [wn_app, wn_app]
      have : wn [(e, dp, lv, c)] = e.nodes := by simp [wn]
      omega
    · unfold WOk
      rw [wn_app, wn_app]
      have e1 : wn [(e, dp, lv, c)] = e.nodes := by simp [wn]
      rw [e1]
      constructor
      · rintro ⟨r1, r2, r3⟩
        refine ⟨fun e' he' => ?_, by omega, fun e' he' => ?_⟩
        · rcases List.mem_append.mp he' with he' | he'
          · exact r1 e' (List.mem_append_left _ he')
          · exact q5.mp (r1 (e, dp, lv, c) (by simp)) e' he'
        · rcases List.mem_append.mp he' with he' | he'
          · exact r3 e' (List.mem_append_left _ he')
          · exact (q6.mp (r3 (e, dp, lv, c) (by simp))).2 e' he'
      · rintro ⟨r1, r2, r3⟩
        refine ⟨fun e' he' => ?_, by omega, fun e' he' => ?_⟩
        · rcases List.mem_append.mp he' with he' | he'
          · exact r1 e' (List.mem_append_left _ he')
          · rw [List.mem_singleton.mp he']; exact q5.mpr fun e'' h'' => r1 e'' (List.mem_append_right _ h'')
        · rcases List.mem_append.mp he' with he' | he'
          · exact r3 e' (List.mem_append_left _ he')
          · rw [List.mem_singleton.mp he']; exact q6.mpr ⟨by omega, fun e'' h'' => r3 e'' (List.mem_append_right _ h'')⟩
    · rcases List.mem_append.mp he' with he' | he'
      · exact hak' e' he'
      · exact q7 e' he'
  cases e with
  | app f a =>
    obtain ⟨c1, c2, k1, k2, rfl⟩ := hpt
    rw [app_d] at ty5
    refine t_ixS (n := 0) ty5 rfl ?_
    walk_at "w"
    rw [decide_eq_true rfl]
    walk_at "w"
    refine l_ty d5 ?_
    walk_at "w"
    refine t_ix (n := 2) ty5 rfl (fun ya ta => ?_)
    walk_at "w"
    refine t_new (ds := [a.d, .int ((dp + 1 : Nat) : Int), .int (lv : Int)]) (.cons ta (.cons (.int _) (.cons (.int _) .nil))) (fun p6 H6 hp6 s6 t6 => ?_)
    walk_at "w"
    refine l_app (d5.same s6) t6 (fun H7 d7 x7 => ?_) (by unfold ww; rw [List.length_map]; omega)
    walk_at "w"
    have tm7 : Tm H5 H7 := (Tm.same s6).tr ((d5.same s6).tm_ex x7)
    refine l_ty d7 ?_
    walk_at "w"
    refine t_ix (n := 1) (ty5.tm tm7) rfl (fun yf tf => ?_)
    walk_at "w"
    refine t_new (ds := [f.d, .int ((dp + 1 : Nat) : Int), .int (lv : Int)]) (.cons tf (.cons (.int _) (.cons (.int _) .nil))) (fun p8 H8 hp8 s8 t8 => ?_)
    walk_at "w"
    refine l_app (d7.same s8) t8 (fun H9 d9 x9 => ?_) (by unfold ww; rw [List.length_append, List.length_map]; show es.length + 1 ≤ 100000; omega)
    walk_at "w"
    refine sub (es' := [(a, dp + 1, lv, c2), (f, dp + 1, lv, c1)]) ((((s5'.tr s6).ex hp0 x7).tr s8).ex hp0 x9) ?_ (Nat.le_refl _) ?_ ?_ ?_ ?_
    · unfold ww; rw [List.map_append]; rw [List.append_assoc] at d9; exact d9
    · show (a.nodes + (f.nodes + 0)) + 1 = f.nodes + a.nodes + 1; omega
    · simp only [List.mem_cons, List.not_mem_nil, or_false, forall_eq_or_imp, forall_eq]
      cases c1 <;> cases c2 <;> simp
    · have := f.dep_pos; have := a.dep_pos
      simp only [List.mem_cons, List.not_mem_nil, or_false, forall_eq_or_imp, forall_eq]
      show dp + (max f.dep a.dep + 1) ≤ 51 ↔ dp ≤ 50 ∧ dp + 1 + a.dep ≤ 51 ∧ dp + 1 + f.dep ≤ 51
      omega
    · intro e' he'; simp at he'; rcases he' with rfl | rfl; exact k2; exact k1
  | lam k g =>
    obtain ⟨c1, k1, rfl⟩ := hpt
    rw [lam_d] at ty5
    refine t_ixS (n := 0) ty5 rfl ?_
    walk_at "w"
    rw [decide_eq_false (by decide)]
    walk_at "w"
    refine t_ixS (n := 0) ty5 rfl ?_
    walk_at "w"
    rw [decide_eq_true rfl]
    walk_at "w"
    refine l_ty d5 ?_
    walk_at "w"
    refine t_ix (n := 2) ty5 rfl (fun ya ta => ?_)
    walk_at "w"
    refine t_new (ds := [g.d, .int ((dp + 1 : Nat) : Int), .int ((lv + 1 : Nat) : Int)]) (.cons ta (.cons (.int _) (.cons (.int _) .nil))) (fun p6 H6 hp6 s6 t6 => ?_)
    walk_at "w"
    refine l_app (d5.same s6) t6 (fun H7 d7 x7 => ?_) (by unfold ww; rw [List.length_map]; omega)
    walk_at "w"
    refine sub (es' := [(g, dp + 1, lv + 1, c)]) ((s5'.tr s6).ex hp0 x7) ?_ (by show 1 ≤ 2; omega) ?_ ?_ ?_ ?_
    · unfold ww; rw [List.map_append]; exact d7
    · show (g.nodes + 0) + 1 = g.nodes + 1; omega
    · simp
    · have := g.dep_pos
      simp only [List.mem_singleton, forall_eq]
      show dp + (g.dep + 1) ≤ 51 ↔ dp ≤ 50 ∧ dp + 1 + g.dep ≤ 51
      omega
    · intro e' he'; rw [List.mem_singleton.mp he']; exact k1
  | tip l =>
    obtain ⟨hc, s0, r, e0, n1, n2⟩ := hpt
    rw [show (Tr.tip l : PTr).d = l.d from rfl, e0] at ty5
    refine t_ixS (n := 0) ty5 rfl ?_
    walk_at "w"
    rw [decide_eq_false n1]
    walk_at "w"
    refine t_ixS (n := 0) ty5 rfl ?_
    walk_at "w"
    rw [decide_eq_false n2]
    walk_at "w"
    refine sub (es' := []) s5' (by rw [List.append_nil]; exact d5) (Nat.zero_le _) rfl ⟨fun _ e' he' => (by cases he'), fun _ => hc⟩ ?_ (fun e' he' => by cases he')
    show dp + 1 ≤ 51 ↔ dp ≤ 50 ∧ _
    exact ⟨fun z => ⟨by omega, fun e' he' => by cases he'⟩, fun z => by omega⟩
end
end K02

namespace K02
open PySem PySem.Spec PyProof.Rows L2 SX
local macro_rules | `(tactic| walk_at "w1") => `(tactic| (first
  | with_reducible refine w_seq ?_ | with_reducible refine w_asgN ?_ | with_reducible refine w_c ?_
  | ((with_reducible refine' w_var ?wv ?_); (case wv => exact rfl))
  | with_reducible refine w_op ?_ | with_reducible refine w_un ?_ | with_reducible refine w_next ?_ | with_reducible refine w_brk ?_ | with_reducible refine w_cnt ?_
  | with_reducible refine w_ifS ?_ | with_reducible refine w_if ?_ | with_reducible refine w_test ?_ | with_reducible refine w_tB ?_ | with_reducible refine w_bl ?_ | with_reducible refine w_blI ?_
  | with_reducible refine w_and ?_ | with_reducible refine w_or ?_ | with_reducible refine w_not ?_ | with_reducible refine w_andV ?_ | with_reducible refine w_orV ?_ | with_reducible refine w_notV ?_
  | with_reducible refine w_nil ?_ | with_reducible refine w_cons ?_ | with_reducible refine w_cb ?_ | with_reducible refine w_call ?_ | with_reducible refine w_callS ?_ | with_reducible refine w_chain ?_
  | with_reducible refine w_tupN ?_ | with_reducible refine w_lstN ?_ | with_reducible refine w_sl ?_ | with_reducible refine w_noPart ?_ | with_reducible refine w_part ?_ | with_reducible refine w_partI ?_
  | with_reducible refine w_ret ?_ | with_reducible refine w_retN ?_ | with_reducible refine w_drop ?_ | with_reducible refine w_asg ?_ | with_reducible refine w_gSub ?_
  | ((with_reducible refine' w_aug ?wv ?_); (case wv => exact rfl)) | with_reducible refine w_ipI ?_
  | with_reducible refine w_addI ?_ | with_reducible refine w_subI ?_ | with_reducible refine w_ltI ?_ | with_reducible refine w_leI ?_ | with_reducible refine w_gtI ?_ | with_reducible refine w_geI ?_
  | with_reducible refine w_eqI ?_ | with_reducible refine w_neI ?_ | with_reducible refine w_eqT ?_ | with_reducible refine w_neT ?_ | with_reducible refine w_inS ?_ | with_reducible refine w_ninS ?_
  | with_reducible refine w_absI ?_ | with_reducible refine w_intI ?_ | with_reducible refine w_maxI ?_ | with_reducible refine w_minI ?_
  | with_reducible refine w_for ?_ | with_reducible refine w_iR1 ?_ | with_reducible refine w_iR2 ?_ | with_reducible refine w_iStr ?_ | with_reducible refine w_strI ?_ | with_reducible refine w_iList ?_ | with_reducible refine w_iTup ?_
  | with_reducible refine w_bm ?_ | with_reducible refine w_bm0 ?_ | with_reducible refine w_t ?_ | with_reducible refine w_f ?_ | with_reducible refine w_nt ?_ | with_reducible refine w_nx ?_ | with_reducible refine w_rt ?_ | with_reducible refine w_bk ?_ | with_reducible refine w_ct ?_ | with_reducible refine w_nf ?_ | with_reducible refine w_lc ?_ | with_reducible refine w_yes ?_ | with_reducible refine w_neg ?_ | with_reducible refine w_intB ?_ | with_reducible refine w_fld ?_ | with_reducible refine w_setf ?_ | with_reducible refine w_faug ?_ | with_reducible refine w_meth ?_ | with_reducible refine w_bmS ?_ | with_reducible refine w_start ?_ | with_reducible refine w_revL ?_ | with_reducible refine w_iR3 ?_))
local macro_rules | `(tactic| walk_at "w") => `(tactic| (repeat (first | walk_at "w1" | dsimp (config := { proj := false }) only [List.set_cons_zero, List.set_cons_succ])))
section
variable {w : World} {K : PySem.W.Frag} {mg : Str → Option Value} {base : Heap}

/-- a kind, or None -/
def OptK (H : Hp) (v : V) : Option Kd → Prop
  | none => v = .non
  | some k => TD H v k.d
theorem OptK.tm {H H' : Hp} {v : V} (t : Tm H H') : ∀ {o : Option Kd}, OptK H v o → OptK H' v o
  | none, h => h
  | some k, h => TD.tm t h
theorem kd_ref {H : Hp} {v : V} {k : Kd} (h : TD H v k.d) : ∃ a, v = .ref a := by
  cases k <;> (obtain ⟨a, xs, rfl, _⟩ := TD.tuple h; exact ⟨a, rfl⟩)
theorem OptK.isN {H : Hp} {v : V} : ∀ {o : Option Kd}, OptK H v o → decide (v = V.non) = o.isNone
  | none, h => by rw [show v = V.non from h]; rfl
  | some k, h => by obtain ⟨a, rfl⟩ := kd_ref h; exact decide_eq_false (by intro z; cases z)
def sp_fit (n : Nat) : Sp := sp2 fun x y H Q _ => ∃ (g : Gt) (ar : List Kd), TD H x (upT g).d ∧ TD H y (.tuple (ar.map Kd.d)) ∧ g.gok ∧ inScope g ar.length = true ∧ g.dep ≤ n ∧ n ≤ 60 ∧ ar.length + n ≤ 100 ∧ (∀ k ∈ ar, k.ok ∧ k.ht ≤ 100) ∧
  ∀ v H', Same H H' → OptK H' v (typed g ar) → Q v H'
theorem typed_app (f a : Gt) (ar : List Kd) : typed (.app f a) ar = match typed f ar, typed a ar with
    | some (.to x y), some z => if x = z then some y else none
    | _, _ => none := rfl
theorem typed_lam (k : Kd) (b : Gt) (ar : List Kd) : typed (.lam k b) ar = match typed b (k :: ar) with
    | some x => some (.to k x)
    | none => none := rfl
theorem w_neNone {x : V} {Q : VK} {H : Hp} (h : Q (.bl (decide (x = V.non))) H) : V.non = V.non ∧ Q (.bl (decide (x = V.non))) H := ⟨rfl, h⟩
theorem fit_step (T : Txt w K mg) {fd : FuncData} (F : Fn_fitting_kind K fd) (hm : mg "_fitting_kind" = some (.ref (He.ga K "_fitting_kind"))) (n : Nat) (c_fitting_kind : CalX P w K mg base CX0 (n + 1) "_fitting_kind" (sp_fit n)) : CalX P w K mg base CX0 (n + 2) "_fitting_kind" (sp_fit (n + 1)) := by
  refine calx0 (k := n + 1) F hm sc_fitting_kind (b_fitting_kind F) (fun _ _ _ _ h => sp2_len h) (fun cdv A outer s H vs Q E hr h => ?_)
  obtain ⟨x0, x1, rfl, h⟩ := h
  refine ⟨_, (pss_cons (ps_if (pt_cmpR op_eq (pe_ix ix_tup (pv 0) pe_int (fun _ _ => rfl)) pe_str (nomark _))
    (pss_cons (ps_set (i := 2) sc_fitting_kind.nd rfl (Or.inl rfl) (pe_cx c_fitting_kind hr (Nat.le_refl _) rfl pass0 (pa_cons (pe_ix ix_tup (pv 0) pe_int (fun _ _ => rfl)) (pa_cons (pv 1) pa_nil))))
    (pss_cons (ps_set (i := 3) sc_fitting_kind.nd rfl (Or.inl rfl) (pe_cx c_fitting_kind hr (Nat.le_refl _) rfl pass0 (pa_cons (pe_ix ix_tup (pv 0) pe_int (fun _ _ => rfl)) (pa_cons (pv 1) pa_nil))))
    (pss_cons (ps_if (PW.pt (pw_or (pt_cmpR op_isN (pv 2) pe_non (nomark _)) (pw_or (pt_cmpR op_isN (pv 3) pe_non (nomark _)) (pw_or (pt_cmpR op_ne (pe_ix ix_tup (pv 2) pe_int (fun _ _ => rfl)) pe_str (nomark _)) (pw_or1 (pt_cmpR (op_neN hr) (pe_ix ix_tup (pv 2) pe_int (fun _ _ => rfl)) (pv 3) (nomark _)))))))
    (pss_one (ps_ret pe_non))
    pss_nil)
    (pss_one (ps_ret (pe_ix ix_tup (pv 2) pe_int (fun _ _ => rfl)))))))
    pss_nil)
    (pss_cons (ps_if (pt_cmpR op_eq (pe_ix ix_tup (pv 0) pe_int (fun _ _ => rfl)) pe_str (nomark _))
    (pss_cons (ps_set (i := 4) sc_fitting_kind.nd rfl (Or.inl rfl) (pe_cx c_fitting_kind hr (Nat.le_refl _) rfl pass0 (pa_cons (pe_ix ix_tup (pv 0) pe_int (fun _ _ => rfl)) (pa_cons (pe_op op_catT (pe_tup (pa_cons (pe_ix ix_tup (pv 0) pe_int (fun _ _ => rfl)) pa_nil)) (pv 1)) pa_nil))))
    (pss_cons (ps_if (pt_cmpR op_isN (pv 4) pe_non (nomark _))
    (pss_one (ps_ret pe_non))
    pss_nil)
    (pss_one (ps_ret (pe_tup (pa_cons pe_str (pa_cons (pe_ix ix_tup (pv 0) pe_int (fun _ _ => rfl)) (pa_cons (pv 4) pa_nil))))))))
    pss_nil)
    (pss_cons (ps_if (pt_cmpR op_eq (pe_ix ix_tup (pv 0) pe_int (fun _ _ => rfl)) pe_str (nomark _))
    (pss_one (ps_ret (pe_ix ix_tup (pv 1) (pe_ix ix_tup (pv 0) pe_int (fun _ _ => rfl)) (fun _ _ => rfl))))
    pss_nil)
    (pss_one (ps_ret (pe_ix ix_tup (pv 0) pe_int (fun _ _ => rfl))))))), ?_⟩
  rw [show start ["part", "around", "taker", "argument", "inner"] [x0, x1] = [some x0, some x1, none, none, none] from rfl]
  have ec0 : Str.ofString "app" = S [97,112,112] := S_ofs (by decide +kernel)
  have ec1 : Str.ofString "lam" = S [108,97,109] := S_ofs (by decide +kernel)
  have ec2 : Str.ofString "bound" = S [98,111,117,110,100] := S_ofs (by decide +kernel)
  have ec3 : Str.ofString "to" = S [116,111] := S_ofs (by decide +kernel)
  rw [ec0, ec1, ec2, ec3]
  obtain ⟨g, ar, hd, ha, hg, hs, hn, hn6, hal, hk, hQ⟩ := h
  try dsimp only [cxOf]
  walk_at "w"
  cases g with
  | app f a =>
    rw [show (upT (.app f a)).d = .tuple [.str (S wAPP), (upT f).d, (upT a).d] from rfl] at hd
    have hs1 : inScope f ar.length = true ∧ inScope a ar.length = true := Bool.and_eq_true_iff.mp hs
    have hn1 : max f.dep a.dep + 1 ≤ n + 1 := hn
    refine t_ixS (n := 0) hd rfl ?_
    walk_at "w"
    rw [decide_eq_true rfl]
    walk_at "w"
    refine t_ix (n := 1) hd rfl (fun yf tf => ?_)
    walk_at "w"
    refine ⟨_, _, rfl, f, ar, tf, ha, hg.1, hs1.1, by omega, by omega, by omega, hk, fun v1 H1 s1 o1 => ?_⟩
    walk_at "w"
    refine t_ix (n := 2) (hd.tm (Tm.same s1)) rfl (fun ya ta => ?_)
    walk_at "w"
    refine ⟨_, _, rfl, a, ar, ta, ha.tm (Tm.same s1), hg.2, hs1.2, by omega, by omega, by omega, hk, fun v2 H2 s2 o2 => ?_⟩
    walk_at "w"
    have s12 := s1.tr s2
    have o1 := o1.tm (Tm.same s2)
    refine ⟨rfl, ?_⟩
    rw [o1.isN]
    rw [typed_app] at hQ
    cases e1 : typed f ar with
    | none =>
      rw [e1] at hQ
      walk_at "w"
      exact hQ _ H2 s12 rfl
    | some x =>
      rw [e1] at hQ o1
      rw [show (some x).isNone = false from rfl]
      walk_at "w"
      refine ⟨rfl, ?_⟩
      rw [o2.isN]
      cases e2 : typed a ar with
      | none =>
        rw [e2] at hQ
        walk_at "w"
        exact hQ _ H2 s12 (by cases x <;> rfl)
      | some z =>
        rw [e2] at hQ o2
        rw [show (some z).isNone = false from rfl]
        walk_at "w"
        obtain ⟨xk, xh⟩ := typed_ht hg.1 hk e1
        obtain ⟨zk, zh⟩ := typed_ht hg.2 hk e2
        cases x with
        | nm w' =>
          refine t_ixS (n := 0) (show TD H2 v1 (.tuple [.str (S wNAMED), .str (S w')]) from o1) rfl ?_
          walk_at "w"
          exact hQ _ H2 s12 rfl
        | fr w' =>
          refine t_ixS (n := 0) (show TD H2 v1 (.tuple [.str (S wFREE), .str (S w')]) from o1) rfl ?_
          walk_at "w"
          exact hQ _ H2 s12 rfl
        | to p q =>
          have o1 : TD H2 v1 (.tuple [.str (S wTO), p.d, q.d]) := o1
          have xh : max p.ht q.ht + 1 ≤ 100 + f.dep := xh
          refine t_ixS (n := 0) o1 rfl ?_
          walk_at "w"
          refine w_ndec (fun z => absurd rfl z) (fun _ => ?_)
          walk_at "w"
          refine t_ix (n := 1) o1 rfl (fun y1 t1 => ?_)
          walk_at "w"
          refine d_ne t1 o2 (Kd.Sz xk.1 (by omega)) (Kd.Sz zk (by omega)) ?_
          rw [Kd.eqv]
          walk_at "w"
          refine w_ndec (fun hne => ?_) (fun heq => ?_)
          · walk_at "w"
            exact hQ _ H2 s12 (by dsimp only; rw [if_neg hne]; rfl)
          · walk_at "w"
            refine t_ix (n := 2) o1 rfl (fun y2 t2 => ?_)
            exact hQ _ H2 s12 (by dsimp only; rw [if_pos heq]; exact t2)
  | lam k b =>
    rw [show (upT (.lam k b)).d = .tuple [.str (S wLAM), k.d, (upT b).d] from rfl] at hd
    have hs1 : inScope b (ar.length + 1) = true := hs
    have hn1 : b.dep + 1 ≤ n + 1 := hn
    have hk1 : k.ht ≤ 100 := Nat.le_trans k.ht_sz hg.1.2
    refine t_ixS (n := 0) hd rfl ?_
    walk_at "w"
    rw [decide_eq_false (by decide)]
    walk_at "w"
    refine t_ixS (n := 0) hd rfl ?_
    walk_at "w"
    rw [decide_eq_true rfl]
    walk_at "w"
    refine t_ix (n := 2) hd rfl (fun yb tb => ?_)
    walk_at "w"
    refine t_ix (n := 1) hd rfl (fun yk tk => ?_)
    walk_at "w"
    refine t_new (ds := [k.d]) (.cons tk .nil) (fun p1 H1 hp1 s1 t1 => ?_)
    walk_at "w"
    refine t_cat t1 (ha.tm (Tm.same s1)) (by simp) (fun z2 H2 s2 t2 => ?_) (by rw [List.length_map]; show 1 + ar.length ≤ 100000; omega)
    walk_at "w"
    have s12 := s1.tr s2
    refine ⟨_, _, rfl, b, k :: ar, tb.tm (Tm.same s12), t2, hg.2, hs1, by omega, by omega, by rw [List.length_cons]; omega, fun k' hk' => ?_, fun v3 H3 s3 o3 => ?_⟩
    · rcases List.mem_cons.mp hk' with rfl | hk'
      · exact ⟨hg.1.1, hk1⟩
      · exact hk k' hk'
    walk_at "w"
    refine ⟨rfl, ?_⟩
    rw [o3.isN]
    rw [typed_lam] at hQ
    have s13 := s12.tr s3
    cases e3 : typed b (k :: ar) with
    | none =>
      rw [e3] at hQ
      walk_at "w"
      exact hQ _ H3 s13 rfl
    | some x =>
      rw [e3] at hQ o3
      rw [show (some x).isNone = false from rfl]
      walk_at "w"
      refine t_ix (n := 1) (hd.tm (Tm.same s13)) rfl (fun yk2 tk2 => ?_)
      walk_at "w"
      refine t_new (ds := [.str (S wTO), k.d, x.d]) (.cons (.str _) (.cons tk2 (.cons o3 .nil))) (fun p4 H4 hp4 s4 t4 => ?_)
      exact hQ _ H4 (s13.tr s4) t4
  | tip l =>
    cases l with
    | var w' k =>
      rw [show (upT (.tip (.var w' k))).d = .tuple [.str (S wVAR), .str (S w'), k.d] from rfl] at hd
      refine t_ixS (n := 0) hd rfl ?_
      walk_at "w"
      rw [decide_eq_false (by decide)]
      walk_at "w"
      refine t_ixS (n := 0) hd rfl ?_
      walk_at "w"
      rw [decide_eq_false (by decide)]
      walk_at "w"
      refine t_ixS (n := 0) hd rfl ?_
      walk_at "w"
      rw [decide_eq_false (by decide)]
      walk_at "w"
      refine t_ix (n := 2) hd rfl (fun y ty => ?_)
      exact hQ _ H (Same.refl H) ty
    | cst w' k =>
      rw [show (upT (.tip (.cst w' k))).d = .tuple [.str (S wCONST), .str (S w'), k.d] from rfl] at hd
      refine t_ixS (n := 0) hd rfl ?_
      walk_at "w"
      rw [decide_eq_false (by decide)]
      walk_at "w"
      refine t_ixS (n := 0) hd rfl ?_
      walk_at "w"
      rw [decide_eq_false (by decide)]
      walk_at "w"
      refine t_ixS (n := 0) hd rfl ?_
      walk_at "w"
      rw [decide_eq_false (by decide)]
      walk_at "w"
      refine t_ix (n := 2) hd rfl (fun y ty => ?_)
      exact hQ _ H (Same.refl H) ty
    | bnd i =>
      rw [show (upT (.tip (.bnd i))).d = .tuple [.str (S wBOUND), .int (i : Int)] from rfl] at hd
      have hi : i < ar.length := of_decide_eq_true hs
      refine t_ixS (n := 0) hd rfl ?_
      walk_at "w"
      rw [decide_eq_false (by decide)]
      walk_at "w"
      refine t_ixS (n := 0) hd rfl ?_
      walk_at "w"
      rw [decide_eq_false (by decide)]
      walk_at "w"
      refine t_ixS (n := 0) hd rfl ?_
      walk_at "w"
      rw [decide_eq_true rfl]
      walk_at "w"
      refine t_ixI (n := 1) hd rfl ?_
      refine t_ix (n := i) ha (by rw [List.getElem?_map, List.getElem?_eq_getElem hi]; rfl) (fun y ty => ?_)
      exact hQ _ H (Same.refl H) (by rw [show typed (.tip (.bnd i)) ar = some ar[i] from List.getElem?_eq_getElem hi]; exact ty)
theorem fit_all (T : Txt w K mg) {fd : FuncData} (F : Fn_fitting_kind K fd) (hm : mg "_fitting_kind" = some (.ref (He.ga K "_fitting_kind"))) : ∀ n, CalX P w K mg base CX0 (n + 1) "_fitting_kind" (sp_fit n)
  | 0 => calx0 (k := 0) F hm sc_fitting_kind (b_fitting_kind F) (fun _ _ _ _ h => sp2_len h) (fun cdv A outer s H vs Q E hr h => by
      obtain ⟨x0, x1, rfl, g, ar, _, _, _, _, hn, _⟩ := h
      have := g.dep_pos
      omega)
  | n + 1 => fit_step T F hm n (fit_all T F hm n)
/-- a value of the law's: a good tree, or one that is spoilt -/
def sp_well_formed : Sp := sp1 fun x H Q _ => (∃ g : Gt, g.gok ∧ TD H x (upT g).d ∧ ∀ v H', Same H H' → OptK H' v (wf g) → Q v H') ∨ ∃ t : PTr, TD H x t.d ∧ AK t 0 false ∧ ∀ H', Same H H' → Q .non H'
theorem ok_well_formed (T : Txt w K mg) {fd : FuncData} (F : Fn_well_formed K fd) (hm : mg "well_formed" = some (.ref (He.ga K "well_formed"))) (c_made_well : CalX P w K mg base CX0 5 "_made_well" sp_made_well) (c_fitting_kind : CalX P w K mg base CX0 51 "_fitting_kind" (sp_fit 50)) : CalX P w K mg base CX0 52 "well_formed" sp_well_formed := by
  refine calx0 (k := 51) F hm sc_well_formed (b_well_formed F) (fun _ _ _ _ h => sp1_len h) (fun cdv A outer s H vs Q E hr h => ?_)
  obtain ⟨x0, rfl, h⟩ := h
  refine ⟨_, (pss_cons (ps_if (pt_not (pt_val (pe_cx c_made_well hr (by decide) rfl pass0 (pa_cons (pv 0) pa_nil))))
    (pss_one (ps_ret pe_non))
    pss_nil)
    (pss_one (ps_ret (pe_cx c_fitting_kind hr (by decide) rfl pass0 (pa_cons (pv 0) (pa_cons (pe_tup pa_nil) pa_nil)))))), ?_⟩
  rw [show start ["value"] [x0] = [some x0] from rfl]
  try dsimp only [cxOf]
  walk_at "w"
  rcases h with ⟨g, hg, hd, hQ⟩ | ⟨t, hd, hk, hQ⟩
  · refine ⟨_, rfl, upT g, _, hd, Tr.gok_ak 0 hg, fun H1 s1 => ?_⟩
    rw [show (upT g).nodes = g.nodes from nodes_map _ _ g, show (upT g).dep = g.dep from dep_map _ _ g]
    walk_at "w"
    by_cases hw : inScope g 0 = true ∧ g.nodes ≤ 400 ∧ g.dep ≤ 50
    · rw [hw.1, decide_eq_true hw.2, Bool.and_self]
      walk_at "w"
      refine t_new .nil (fun p2 H2 hp2 s2 t2 => ?_)
      walk_at "w"
      have s12 := s1.tr s2
      refine ⟨_, _, rfl, g, [], hd.tm (Tm.same s12), t2, hg, hw.1, hw.2.2, by omega, by show 0 + 50 ≤ 100; omega, (fun k hk => by cases hk), fun v H3 s3 o3 => ?_⟩
      refine hQ v H3 (s12.tr s3) ?_
      unfold wf
      rw [if_pos hw]; exact o3
    · have e : (inScope g 0 && decide (g.nodes ≤ 400 ∧ g.dep ≤ 50)) = false := by
        cases h1 : inScope g 0 with
        | false => rfl
        | true => rw [h1] at hw; exact decide_eq_false fun z => hw ⟨rfl, z⟩
      rw [e]
      walk_at "w"
      refine hQ _ H1 s1 ?_
      unfold wf
      rw [if_neg hw]; rfl
  · refine ⟨_, rfl, t, _, hd, hk, fun H1 s1 => ?_⟩
    rw [Bool.false_and]
    walk_at "w"
    exact hQ H1 s1

theorem j_InvalidTerm (w : World) : PySem.HallX.Init0 PySem.Challenge.pw_lemmahall_k02_well_formed w h_InvalidTerm.qual h_InvalidTerm.params h_InvalidTerm.body h_InvalidTerm.scope where
  head := ⟨_, rfl, rfl⟩
  bind := fun _ _ _ _ _ _ _ _ => rfl
  bd := ⟨_, _, _, _, _, _, _, rfl, fun _ _ _ _ _ => PySem.HallX.msg_const, fun _ _ => rfl, fun _ _ => rfl⟩
  hks := rfl
  hkc := rfl
  hka := rfl
  hk := rfl
  hco := rfl
  hgen := rfl
  hcell := by decide
def sp_kind_of (K : PySem.W.Frag) : Sp := sp1 fun x H Q E => (∃ g : Gt, g.gok ∧ TD H x (upT g).d ∧ (wf g = none → ∀ H', Same H H' → E (.ref (He.ga K "InvalidTerm")) none H') ∧ ∀ k v H', wf g = some k → Same H H' → TD H' v k.d → Q v H') ∨ ∃ t : PTr, TD H x t.d ∧ AK t 0 false ∧ ∀ H', Same H H' → E (.ref (He.ga K "InvalidTerm")) none H'
theorem ok_kind_of (T : Txt w K mg) {fd : FuncData} (F : Fn_kind_of K fd) (hm : mg "kind_of" = some (.ref (He.ga K "kind_of"))) (c_well_formed : CalX P w K mg base CX0 52 "well_formed" sp_well_formed) : CalX P w K mg base (L2.CX P w) 53 "kind_of" (sp_kind_of K) := by
  refine calxX (k := 52) F hm sc_kind_of (b_kind_of F) (fun _ _ _ _ h => sp1_len h) (fun cdv A outer s H vs Q E hr h => ?_)
  obtain ⟨x0, rfl, h⟩ := h
  refine ⟨_, (pss_cons (ps_set (i := 1) sc_kind_of.nd rfl (Or.inl rfl) (pe_cx c_well_formed hr (by decide) rfl pass0 (pa_cons (pv 0) pa_nil)))
    (pss_cons (ps_if (pt_cmpR op_isN (pv 1) pe_non (nomark _))
    (pss_one (ps_raise0 rfl T.h_InvalidTerm (j_InvalidTerm _) hr (takes_of rfl rfl rfl rfl) rfl))
    pss_nil)
    (pss_one (ps_ret (pv 1))))), ?_⟩
  rw [show start ["term", "kind"] [x0] = [some x0, none] from rfl]
  try dsimp only [cxOf]
  walk_at "w"
  rcases h with ⟨g, hg, hd, hE, hQ⟩ | ⟨t, hd, hk, hE⟩
  · refine ⟨_, rfl, .inl ⟨g, hg, hd, fun v H1 s1 o1 => ?_⟩⟩
    walk_at "w"
    refine ⟨rfl, ?_⟩
    rw [o1.isN]
    cases e : wf g with
    | none =>
      rw [show (none : Option Kd).isNone = true from rfl]
      walk_at "w"
      exact hE e H1 s1
    | some k =>
      rw [show (some k).isNone = false from rfl]
      rw [e] at o1
      walk_at "w"
      exact hQ k v H1 e s1 o1
  · refine ⟨_, rfl, .inr ⟨t, hd, hk, fun H1 s1 => ?_⟩⟩
    walk_at "w"
    refine ⟨rfl, ?_⟩
    rw [decide_eq_true rfl]
    walk_at "w"
    exact hE H1 s1
end
end K02

namespace K02
open PySem PySem.Spec PyProof.Rows L2 SX
local macro_rules | `(tactic| walk_at "w1") => `(tactic| (first
  | with_reducible refine w_seq ?_ | with_reducible refine w_asgN ?_ | with_reducible refine w_c ?_
  | ((with_reducible refine' w_var ?wv ?_); (case wv => exact rfl))
  | with_reducible refine w_op ?_ | with_reducible refine w_un ?_ | with_reducible refine w_next ?_ | with_reducible refine w_brk ?_ | with_reducible refine w_cnt ?_
  | with_reducible refine w_ifS ?_ | with_reducible refine w_if ?_ | with_reducible refine w_test ?_ | with_reducible refine w_tB ?_ | with_reducible refine w_bl ?_ | with_reducible refine w_blI ?_
  | with_reducible refine w_and ?_ | with_reducible refine w_or ?_ | with_reducible refine w_not ?_ | with_reducible refine w_andV ?_ | with_reducible refine w_orV ?_ | with_reducible refine w_notV ?_
  | with_reducible refine w_nil ?_ | with_reducible refine w_cons ?_ | with_reducible refine w_cb ?_ | with_reducible refine w_call ?_ | with_reducible refine w_callS ?_ | with_reducible refine w_chain ?_
  | with_reducible refine w_tupN ?_ | with_reducible refine w_lstN ?_ | with_reducible refine w_sl ?_ | with_reducible refine w_noPart ?_ | with_reducible refine w_part ?_ | with_reducible refine w_partI ?_
  | with_reducible refine w_ret ?_ | with_reducible refine w_retN ?_ | with_reducible refine w_drop ?_ | with_reducible refine w_asg ?_ | with_reducible refine w_gSub ?_
  | ((with_reducible refine' w_aug ?wv ?_); (case wv => exact rfl)) | with_reducible refine w_ipI ?_
  | with_reducible refine w_addI ?_ | with_reducible refine w_subI ?_ | with_reducible refine w_ltI ?_ | with_reducible refine w_leI ?_ | with_reducible refine w_gtI ?_ | with_reducible refine w_geI ?_
  | with_reducible refine w_eqI ?_ | with_reducible refine w_neI ?_ | with_reducible refine w_eqT ?_ | with_reducible refine w_neT ?_ | with_reducible refine w_inS ?_ | with_reducible refine w_ninS ?_
  | with_reducible refine w_absI ?_ | with_reducible refine w_intI ?_ | with_reducible refine w_maxI ?_ | with_reducible refine w_minI ?_
  | with_reducible refine w_for ?_ | with_reducible refine w_iR1 ?_ | with_reducible refine w_iR2 ?_ | with_reducible refine w_iStr ?_ | with_reducible refine w_strI ?_ | with_reducible refine w_iList ?_ | with_reducible refine w_iTup ?_
  | with_reducible refine w_bm ?_ | with_reducible refine w_bm0 ?_ | with_reducible refine w_t ?_ | with_reducible refine w_f ?_ | with_reducible refine w_nt ?_ | with_reducible refine w_nx ?_ | with_reducible refine w_rt ?_ | with_reducible refine w_bk ?_ | with_reducible refine w_ct ?_ | with_reducible refine w_nf ?_ | with_reducible refine w_lc ?_ | with_reducible refine w_yes ?_ | with_reducible refine w_neg ?_ | with_reducible refine w_intB ?_ | with_reducible refine w_fld ?_ | with_reducible refine w_setf ?_ | with_reducible refine w_faug ?_ | with_reducible refine w_meth ?_ | with_reducible refine w_bmS ?_ | with_reducible refine w_start ?_ | with_reducible refine w_revL ?_ | with_reducible refine w_iR3 ?_))
local macro_rules | `(tactic| walk_at "w") => `(tactic| (repeat (first | walk_at "w1" | dsimp (config := { proj := false }) only [List.set_cons_zero, List.set_cons_succ])))
section
variable {w : World} {K : PySem.W.Frag} {mg : Str → Option Value} {base : Heap}

/-- the data of a code -/
def cd (c : List PRow) : List PyData := c.map Rw.d
theorem row_d {H : Hp} {x : V} {r : PRow} (h : TD H x r.d) (ho : RowOk r) : ∃ s rest, TD H x (.tuple (.str (S s) :: rest)) ∧ (PyData.tuple (.str (S s) :: rest)) = r.d ∧ (match r with | .app => s = wAPP | .lam _ => s = wLAM | .tip (.odd _) => s = wODD | .tip (.tip _) => s ≠ wAPP ∧ s ≠ wLAM ∧ s ≠ wODD) := by
  cases r with
  | app => exact ⟨_, _, h, rfl, rfl⟩
  | lam k => exact ⟨_, _, h, rfl, rfl⟩
  | tip t =>
    cases t with
    | odd d => exact ⟨_, _, h, rfl, rfl⟩
    | tip d =>
      obtain ⟨s, r, e, h1, h2, h3⟩ := ho
      have h : TD H x d := h
      rw [e] at h
      exact ⟨s, r, h, e.symm, h1, h2, h3⟩
def sp_law_built : Sp := sp1 fun x H Q _ => ∃ (p : Addr) (c : List PRow) (t : PTr), x = .ref p ∧ DL H p (cd c) ∧ (∀ r ∈ c, RowOk r) ∧ fok c ∧ fo c = [t] ∧ c.length ≤ 50000 ∧ ∀ v H', Same H H' → TD H' v t.d → Q v H'
def stk (ts : List PTr) : List PyData := (ts.map Tr.d).reverse
theorem stk_cons (t : PTr) (ts : List PTr) : stk (t :: ts) = stk ts ++ [t.d] := by unfold stk; rw [List.map_cons, List.reverse_cons]
theorem stk_len (ts : List PTr) : (stk ts).length = ts.length := by unfold stk; rw [List.length_reverse, List.length_map]
theorem l_ixLast {K : PySem.W.Frag} {H : Hp} {Q : VK} {p : Addr} {ds : List PyData} {d : PyData} (h : DL H p (ds ++ [d])) (k : ∀ x, TD H x d → Q x H) : rIxL K (.ref p) (.int (-1)) H Q := by
  obtain ⟨xs, e, t⟩ := h
  obtain ⟨ys, x, rfl, _, t2⟩ := t.unsnoc
  exact w_ixLm (SqL.of e) (k x t2)
theorem ok_law_built (T : Txt w K mg) {fd : FuncData} (F : Fn_law_built K fd) (hm : mg "_law_built" = some (.ref (He.ga K "_law_built")))  : CalX P w K mg base CX0 1 "_law_built" sp_law_built := by
  refine calx0 (k := 0) F hm sc_law_built (b_law_built F) (fun _ _ _ _ h => sp1_len h) (fun cdv A outer s H vs Q E hr h => ?_)
  obtain ⟨x0, rfl, h⟩ := h
  refine ⟨_, (pss_cons (ps_set (i := 1) sc_law_built.nd rfl (Or.inl rfl) (pe_lst pa_nil))
    (pss_cons (ps_for PassesOwn.never rfl (pi_list (pe_revL (pv 0))) (pg_name (i := 2) sc_law_built.nd rfl (Or.inl rfl))
    (pss_one (ps_if (pt_cmpR op_eq (pe_ix ix_tup (pv 2) pe_int (fun _ _ => rfl)) pe_str (nomark _))
    (pss_cons (ps_set (i := 3) sc_law_built.nd rfl (Or.inl rfl) (pe_bm0 PySem.F.plainAttrs_list PySem.F.slot_list_pop PySem.F.type_list_pop mt_pop (pv 1)))
    (pss_cons (ps_set (i := 4) sc_law_built.nd rfl (Or.inl rfl) (pe_bm0 PySem.F.plainAttrs_list PySem.F.slot_list_pop PySem.F.type_list_pop mt_pop (pv 1)))
    (pss_one (ps_expr (pe_bm PySem.F.plainAttrs_list PySem.F.slot_list_append PySem.F.type_list_append mt_append (pv 1) (pa_cons (pe_tup (pa_cons pe_str (pa_cons (pv 3) (pa_cons (pv 4) pa_nil)))) pa_nil))))))
    (pss_one (ps_if (pt_cmpR op_eq (pe_ix ix_tup (pv 2) pe_int (fun _ _ => rfl)) pe_str (nomark _))
    (pss_cons (ps_set (i := 5) sc_law_built.nd rfl (Or.inl rfl) (pe_bm0 PySem.F.plainAttrs_list PySem.F.slot_list_pop PySem.F.type_list_pop mt_pop (pv 1)))
    (pss_one (ps_expr (pe_bm PySem.F.plainAttrs_list PySem.F.slot_list_append PySem.F.type_list_append mt_append (pv 1) (pa_cons (pe_tup (pa_cons pe_str (pa_cons (pe_ix ix_tup (pv 2) pe_int (fun _ _ => rfl)) (pa_cons (pv 5) pa_nil)))) pa_nil)))))
    (pss_one (ps_if (pt_cmpR op_eq (pe_ix ix_tup (pv 2) pe_int (fun _ _ => rfl)) pe_str (nomark _))
    (pss_one (ps_expr (pe_bm PySem.F.plainAttrs_list PySem.F.slot_list_append PySem.F.type_list_append mt_append (pv 1) (pa_cons (pe_ix ix_tup (pv 2) pe_int (fun _ _ => rfl)) pa_nil))))
    (pss_one (ps_expr (pe_bm PySem.F.plainAttrs_list PySem.F.slot_list_append PySem.F.type_list_append mt_append (pv 1) (pa_cons (pv 2) pa_nil)))))))))))
    (pss_one (ps_ret (pe_ix ix_list (pv 1) (pe_un un_neg pe_int) (fun _ _ => rfl)))))), ?_⟩
  rw [show start ["code", "stack", "row", "function", "argument", "inner"] [x0] = [some x0, none, none, none, none, none] from rfl]
  have ec0 : Str.ofString "app" = S [97,112,112] := S_ofs (by decide +kernel)
  have ec1 : Str.ofString "lam" = S [108,97,109] := S_ofs (by decide +kernel)
  have ec2 : Str.ofString "odd" = S [111,100,100] := S_ofs (by decide +kernel)
  rw [ec0, ec1, ec2]
  obtain ⟨p, c, t, rfl, hd, hR, hok, hfo, hz, hQ⟩ := h
  try dsimp only [cxOf]
  walk_at "w"
  refine n_L (fun st H1 hst s1 e1 => ?_)
  walk_at "w"
  obtain ⟨xs0, e0, t0⟩ := hd.same s1
  refine ⟨p, xs0, rfl, SqL.of e0, fun rv hrv => ?_⟩
  have s2 := same_upd (o := .lst xs0.reverse) hrv
  have er : upd H1 rv (.lst xs0.reverse) rv = some (.lst xs0.reverse) := upd_same
  have tr := t0.rev.tm (Tm.same s2)
  generalize upd H1 rv (.lst xs0.reverse) = H2 at s2 er tr ⊢
  generalize xs0.reverse = xs at er tr
  have lx := tr.len
  have lx : xs.length = c.length := by rw [lx]; unfold cd; rw [List.length_reverse, List.length_map]
  have hst2 : H2 st = some (.lst []) := s2 _ _ e1
  have hne : rv ≠ st := fun z => by rw [z] at hrv; rw [e1] at hrv; cases hrv
  refine w_lstI (SqL.of er) ?_
  refine for_list (xs := xs) (fun i σ H' => ∃ (v1 v2 v3 v4 : Option V), σ = [some (.ref p), some (.ref st), v1, v2, v3, v4] ∧ Same H H' ∧ H' rv = some (.lst xs) ∧ TDs H' xs (cd c).reverse ∧ DL H' st (stk (fo (c.drop (c.length - i)))))
    ⟨_, _, _, _, rfl, s1.tr s2, er, tr, ⟨[], hst2, by rw [show c.length - 0 = c.length from rfl, List.drop_length]; exact .nil⟩⟩ (fun i σ H' _ h => by obtain ⟨_, _, _, _, _, _, h, _⟩ := h; exact SqL.of h) ?_ ?_
  · rintro i x σ H3 hx ⟨v1, v2, v3, v4, rfl, s3, e3, t3, d3⟩
    have hi : i < c.length := by rw [← lx]; exact (List.getElem?_eq_some_iff.mp hx).1
    obtain ⟨k, hk⟩ : ∃ k, k = c.length - (i + 1) := ⟨_, rfl⟩
    have hk1 : c.length - i = k + 1 := by omega
    rw [hk1] at d3
    have hkl : k < c.length := by omega
    have ek : c[k]? = some c[k] := List.getElem?_eq_getElem hkl
    have hRk := hR _ (List.getElem_mem hkl)
    obtain ⟨d, ed, td⟩ := t3.get' hx
    have ed : d = c[k].d := by
      unfold cd at ed
      rw [List.getElem?_reverse (by rw [List.length_map]; exact hi), List.length_map, List.getElem?_map, show c.length - 1 - i = k by omega, ek] at ed
      exact (Option.some.inj ed).symm
    subst ed
    rw [← hk]
    generalize c[k] = r at ek hRk td
    have hfl := fo_len hok (k + 1)
    have next : ∀ {H' : Hp} {u1 u2 u3 u4 : Option V}, Same H H' → H' rv = some (.lst xs) → TDs H' xs (cd c).reverse → DL H' st (stk (fo (c.drop k))) → ∃ (w1 w2 w3 w4 : Option V), [some (.ref p), some (.ref st), u1, u2, u3, u4] = [some (.ref p), some (.ref st), w1, w2, w3, w4] ∧ Same H H' ∧ H' rv = some (.lst xs) ∧ TDs H' xs (cd c).reverse ∧ DL H' st (stk (fo (c.drop k))) :=
      fun q1 q2 q3 q4 => ⟨_, _, _, _, rfl, q1, q2, q3, q4⟩
    have hs0 : H st = none := hst
    obtain ⟨s, rest, tdx, erd, hm⟩ := row_d td hRk
    dsimp only [gName]
    walk_at "w"
    refine t_ixS (n := 0) tdx rfl ?_
    walk_at "w"
    cases r with
    | app =>
      have hm : s = wAPP := hm
      subst hm
      obtain ⟨f, a, ts, q1, q2⟩ := at_app hok ek
      rw [q1, stk_cons, stk_cons] at d3
      rw [q1] at hfl
      rw [decide_eq_true rfl]
      walk_at "w"
      refine l_ty d3 ?_
      walk_at "w"
      refine l_pop d3 (fun y1 H4 ty1 d4 x4 => ?_)
      walk_at "w"
      refine l_ty d4 ?_
      walk_at "w"
      refine l_pop d4 (fun y2 H5 ty2 d5 x5 => ?_)
      walk_at "w"
      refine l_ty d5 ?_
      walk_at "w"
      refine t_new (ds := [.str (S wAPP), f.d, a.d]) (.cons (.str _) (.cons (ty1.tm (d4.tm_ex x5)) (.cons ty2 .nil))) (fun p6 H6 hp6 s6 t6 => ?_)
      walk_at "w"
      refine l_app (d5.same s6) t6 (fun H7 d7 x7 => ?_) (by rw [stk_len]; have : ts.length + 1 + 1 ≤ c.length - (k + 1) := hfl; omega)
      walk_at "w"
      have tm7 : Tm H3 H7 := (((d3.tm_ex x4).tr (d4.tm_ex x5)).tr (Tm.same s6)).tr ((d5.same s6).tm_ex x7)
      refine next ((((s3.ex hs0 x4).ex hs0 x5).tr s6).ex hs0 x7) ?_ (t3.tm tm7) ?_
      · rw [x7 rv hne]; refine s6 _ _ ?_; rw [x5 rv hne, x4 rv hne]; exact e3
      · rw [q2, stk_cons]; exact d7
    | lam kk =>
      have hm : s = wLAM := hm
      subst hm
      obtain ⟨b, ts, q1, q2⟩ := at_lam hok ek
      rw [q1, stk_cons] at d3
      rw [q1] at hfl
      rw [decide_eq_false (by decide)]
      walk_at "w"
      refine t_ixS (n := 0) tdx rfl ?_
      walk_at "w"
      rw [decide_eq_true rfl]
      walk_at "w"
      refine l_ty d3 ?_
      walk_at "w"
      refine l_pop d3 (fun y1 H4 ty1 d4 x4 => ?_)
      walk_at "w"
      refine l_ty d4 ?_
      walk_at "w"
      have tdk : TD H3 x (.tuple [.str (S wLAM), kk]) := td
      refine t_ix (n := 1) (tdk.tm (d3.tm_ex x4)) rfl (fun y2 ty2 => ?_)
      walk_at "w"
      refine t_new (ds := [.str (S wLAM), kk, b.d]) (.cons (.str _) (.cons ty2 (.cons ty1 .nil))) (fun p6 H6 hp6 s6 t6 => ?_)
      walk_at "w"
      refine l_app (d4.same s6) t6 (fun H7 d7 x7 => ?_) (by rw [stk_len]; have : ts.length + 1 ≤ c.length - (k + 1) := hfl; omega)
      walk_at "w"
      have tm7 : Tm H3 H7 := ((d3.tm_ex x4).tr (Tm.same s6)).tr ((d4.same s6).tm_ex x7)
      refine next (((s3.ex hs0 x4).tr s6).ex hs0 x7) ?_ (t3.tm tm7) ?_
      · rw [x7 rv hne]; refine s6 _ _ ?_; rw [x4 rv hne]; exact e3
      · rw [q2, stk_cons]; exact d7
    | tip tp =>
      have q2 := at_tip ek
      cases tp with
      | odd d =>
        have hm : s = wODD := hm
        subst hm
        rw [decide_eq_false (by decide)]
        walk_at "w"
        refine t_ixS (n := 0) tdx rfl ?_
        walk_at "w"
        rw [decide_eq_false (by decide)]
        walk_at "w"
        refine t_ixS (n := 0) tdx rfl ?_
        walk_at "w"
        rw [decide_eq_true rfl]
        walk_at "w"
        refine l_ty d3 ?_
        walk_at "w"
        have tdk : TD H3 x (.tuple [.str (S wODD), d]) := td
        refine t_ix (n := 1) tdk rfl (fun y2 ty2 => ?_)
        walk_at "w"
        refine l_app d3 ty2 (fun H7 d7 x7 => ?_) (by rw [stk_len]; omega)
        walk_at "w"
        refine next (s3.ex hs0 x7) (by rw [x7 rv hne]; exact e3) (t3.tm (d3.tm_ex x7)) ?_
        rw [q2, stk_cons]; exact d7
      | tip d =>
        obtain ⟨m1, m2, m3⟩ := hm
        rw [decide_eq_false m1]
        walk_at "w"
        refine t_ixS (n := 0) tdx rfl ?_
        walk_at "w"
        rw [decide_eq_false m2]
        walk_at "w"
        refine t_ixS (n := 0) tdx rfl ?_
        walk_at "w"
        rw [decide_eq_false m3]
        walk_at "w"
        refine l_ty d3 ?_
        walk_at "w"
        refine l_app d3 (show TD H3 x d from td) (fun H7 d7 x7 => ?_) (by rw [stk_len]; omega)
        walk_at "w"
        refine next (s3.ex hs0 x7) (by rw [x7 rv hne]; exact e3) (t3.tm (d3.tm_ex x7)) ?_
        rw [q2, stk_cons]; exact d7
  · rintro σ H3 ⟨v1, v2, v3, v4, rfl, s3, e3, t3, d3⟩
    rw [lx, Nat.sub_self, List.drop_zero, hfo, stk_cons] at d3
    walk_at "w"
    refine l_ixLast d3 (fun x tx => ?_)
    exact hQ x H3 s3 tx

def pd (c : List PRow) (k : Nat) : List Nat := pend (· + 1) (fun _ => (· + 1)) c [1] k
def nats (l : List Nat) : List PyData := (l.map fun (n : Nat) => PyData.int (n : Int)).reverse
theorem nats_cons (n : Nat) (l : List Nat) : nats (n :: l) = nats l ++ [.int (n : Int)] := by unfold nats; rw [List.map_cons, List.reverse_cons]
theorem nats_len (l : List Nat) : (nats l).length = l.length := by unfold nats; rw [List.length_reverse, List.length_map]
def sp_law_depth : Sp := sp1 fun x H Q _ => ∃ (p : Addr) (c : List PRow) (t : PTr), x = .ref p ∧ DL H p (cd c) ∧ (∀ r ∈ c, RowOk r) ∧ fok c ∧ fo c = [t] ∧ c.length ≤ 50000 ∧ ∀ H', Same H H' → Q (.int (t.dep : Int)) H'
theorem ok_law_depth (T : Txt w K mg) {fd : FuncData} (F : Fn_law_depth K fd) (hm : mg "_law_depth" = some (.ref (He.ga K "_law_depth")))  : CalX P w K mg base CX0 1 "_law_depth" sp_law_depth := by
  refine calx0 (k := 0) F hm sc_law_depth (b_law_depth F) (fun _ _ _ _ h => sp1_len h) (fun cdv A outer s H vs Q E hr h => ?_)
  obtain ⟨x0, rfl, h⟩ := h
  refine ⟨_, (pss_cons (ps_set (i := 1) sc_law_depth.nd rfl (Or.inl rfl) (pe_lst (pa_cons pe_int pa_nil)))
    (pss_cons (ps_set (i := 2) sc_law_depth.nd rfl (Or.inl rfl) pe_int)
    (pss_cons (ps_for PassesOwn.never rfl (pi_list (pv 0)) (pg_name (i := 3) sc_law_depth.nd rfl (Or.inl rfl))
    (pss_cons (ps_set (i := 4) sc_law_depth.nd rfl (Or.inl rfl) (pe_bm0 PySem.F.plainAttrs_list PySem.F.slot_list_pop PySem.F.type_list_pop mt_pop (pv 1)))
    (pss_cons (ps_set (i := 2) sc_law_depth.nd rfl (Or.inl rfl) (pe_callB (call_maxI rfl) (by rfl) T.f_max (by decide +kernel) (pa_cons (pv 2) (pa_cons (pv 4) pa_nil))))
    (pss_one (ps_if (pt_cmpR op_eq (pe_ix ix_tup (pv 3) pe_int (fun _ _ => rfl)) pe_str (nomark _))
    (pss_cons (ps_expr (pe_bm PySem.F.plainAttrs_list PySem.F.slot_list_append PySem.F.type_list_append mt_append (pv 1) (pa_cons (pe_op op_addI (pv 4) pe_int) pa_nil)))
    (pss_one (ps_expr (pe_bm PySem.F.plainAttrs_list PySem.F.slot_list_append PySem.F.type_list_append mt_append (pv 1) (pa_cons (pe_op op_addI (pv 4) pe_int) pa_nil)))))
    (pss_one (ps_if (pt_cmpR op_eq (pe_ix ix_tup (pv 3) pe_int (fun _ _ => rfl)) pe_str (nomark _))
    (pss_one (ps_expr (pe_bm PySem.F.plainAttrs_list PySem.F.slot_list_append PySem.F.type_list_append mt_append (pv 1) (pa_cons (pe_op op_addI (pv 4) pe_int) pa_nil))))
    pss_nil)))))))
    (pss_one (ps_ret (pv 2)))))), ?_⟩
  rw [show start ["code", "todo", "most", "row", "depth"] [x0] = [some x0, none, none, none, none] from rfl]
  have ec0 : Str.ofString "app" = S [97,112,112] := S_ofs (by decide +kernel)
  have ec1 : Str.ofString "lam" = S [108,97,109] := S_ofs (by decide +kernel)
  rw [ec0, ec1]
  obtain ⟨p, c, t, rfl, hd, hR, hok, hfo, hz, hQ⟩ := h
  try dsimp only [cxOf]
  walk_at "w"
  refine l_new (ds := nats [1]) (.cons (.int _) .nil) (fun st H1 hst s1 d1 => ?_)
  walk_at "w"
  obtain ⟨xs, e0, t0⟩ := hd
  have lx : xs.length = c.length := by rw [t0.len]; unfold cd; rw [List.length_map]
  have hne : p ≠ st := fun z => by rw [z] at e0; rw [e0] at hst; cases hst
  have hlen := fun k hk => pend_len (ap := (· + 1)) (lm := fun (_ : PyData) => (· + 1)) (p0 := [1]) hok (by rw [hfo]; rfl) k hk
  refine w_lstI (SqL.of (s1 _ _ e0)) ?_
  refine for_list (xs := xs) (fun i σ H' => i ≤ c.length ∧ ∃ (most : Nat) (v1 v2 : Option V), σ = [some (.ref p), some (.ref st), some (.int (most : Int)), v1, v2] ∧ Same H H' ∧ TDs H' xs (cd c) ∧ DL H' st (nats (pd c i)) ∧ max (most + 1) (zd (pd c i) (fo (c.drop i))) = t.dep + 1)
    ⟨Nat.zero_le _, 0, _, _, rfl, s1, t0.tm (Tm.same s1), d1, by rw [List.drop_zero, hfo]; show max 1 (max (1 + t.dep) 0) = _; omega⟩ (fun i σ H' _ h => by obtain ⟨_, _, _, _, _, h, _⟩ := h; exact SqL.of (h _ _ e0)) ?_ ?_
  · rintro i x σ H3 hx ⟨_, most, v1, v2, rfl, s3, t3, d3, hmx⟩
    have hi : i < c.length := by rw [← lx]; exact (List.getElem?_eq_some_iff.mp hx).1
    have ek : c[i]? = some c[i] := List.getElem?_eq_getElem hi
    have hRk := hR _ (List.getElem_mem hi)
    obtain ⟨d, ed, td⟩ := t3.get' hx
    have ed : d = c[i].d := by
      unfold cd at ed
      rw [List.getElem?_map, ek] at ed
      exact (Option.some.inj ed).symm
    subst ed
    have hnx := pend_at (ap := (· + 1)) (lm := fun (_ : PyData) => (· + 1)) (p0 := [1]) ek
    have hlk := hlen i (by omega)
    have hpos := fo_ne hok ek
    have hfl := fo_len hok i
    have hst3 : H st = none := hst
    generalize c[i] = r at ek hRk td hnx
    obtain ⟨q, ps, hp⟩ := one_of (show 1 ≤ (pd c i).length by unfold pd; omega)
    have hzs := zd_step hok ek q ps
    rw [show pd c (i + 1) = nxt (· + 1) (fun _ => (· + 1)) r (pd c i) from hnx, hp]
    rw [hp] at d3 hmx
    have hlq : ps.length + 1 ≤ c.length - i := by have : (pd c i).length = _ := hlk; rw [hp] at this; have : ps.length + 1 = _ := this; omega
    rw [nats_cons] at d3
    have next : ∀ {H' : Hp} {u1 u2 : Option V}, Same H H' → TDs H' xs (cd c) → DL H' st (nats (nxt (· + 1) (fun _ => (· + 1)) r (q :: ps))) →
        i + 1 ≤ c.length ∧ ∃ (m : Nat) (w1 w2 : Option V), [some (.ref p), some (.ref st), some (.int ((max most q : Nat) : Int)), u1, u2] = [some (.ref p), some (.ref st), some (.int (m : Int)), w1, w2] ∧ Same H H' ∧ TDs H' xs (cd c) ∧ DL H' st (nats (nxt (· + 1) (fun _ => (· + 1)) r (q :: ps))) ∧ max (m + 1) (zd (nxt (· + 1) (fun _ => (· + 1)) r (q :: ps)) (fo (c.drop (i + 1)))) = t.dep + 1 :=
      fun q1 q2 q3 => ⟨hi, _, _, _, rfl, q1, q2, q3, by omega⟩
    obtain ⟨s, rest, tdx, erd, hm⟩ := row_d td hRk
    dsimp only [gName]
    walk_at "w"
    refine l_ty d3 ?_
    walk_at "w"
    refine l_pop d3 (fun y1 H4 ty1 d4 x4 => ?_)
    rw [ty1.num]
    walk_at "w"
    rw [show (if (q : Int) > (most : Int) then (q : Int) else (most : Int)) = ((max most q : Nat) : Int) by split <;> omega]
    have tm4 := d3.tm_ex x4
    have tdx4 := tdx.tm tm4
    have s4 := s3.ex hst3 x4
    refine t_ixS (n := 0) tdx4 rfl ?_
    walk_at "w"
    cases r with
    | app =>
      have hm : s = wAPP := hm
      subst hm
      rw [decide_eq_true rfl]
      walk_at "w"
      refine l_ty d4 ?_
      walk_at "w"
      refine l_app (d := .int ((q + 1 : Nat) : Int)) d4 (.int _) (fun H5 d5 x5 => ?_) (by rw [nats_len]; omega)
      walk_at "w"
      refine l_ty d5 ?_
      walk_at "w"
      refine l_app (d := .int ((q + 1 : Nat) : Int)) d5 (.int _) (fun H6 d6 x6 => ?_) (by rw [List.length_append, nats_len]; show ps.length + 1 ≤ 100000; omega)
      walk_at "w"
      refine next ((s4.ex hst3 x5).ex hst3 x6) (t3.tm ((tm4.tr (d4.tm_ex x5)).tr (d5.tm_ex x6))) ?_
      show DL H6 st (nats ((q + 1) :: (q + 1) :: ps))
      rw [nats_cons, nats_cons]; exact d6
    | lam kk =>
      have hm : s = wLAM := hm
      subst hm
      rw [decide_eq_false (by decide)]
      walk_at "w"
      refine t_ixS (n := 0) tdx4 rfl ?_
      walk_at "w"
      rw [decide_eq_true rfl]
      walk_at "w"
      refine l_ty d4 ?_
      walk_at "w"
      refine l_app (d := .int ((q + 1 : Nat) : Int)) d4 (.int _) (fun H5 d5 x5 => ?_) (by rw [nats_len]; omega)
      walk_at "w"
      refine next (s4.ex hst3 x5) (t3.tm (tm4.tr (d4.tm_ex x5))) ?_
      show DL H5 st (nats ((q + 1) :: ps))
      rw [nats_cons]; exact d5
    | tip tp =>
      have m12 : s ≠ wAPP ∧ s ≠ wLAM := by
        cases tp with
        | odd d => have hm : s = wODD := hm; subst hm; exact ⟨by decide, by decide⟩
        | tip d => exact ⟨hm.1, hm.2.1⟩
      rw [decide_eq_false m12.1]
      walk_at "w"
      refine t_ixS (n := 0) tdx4 rfl ?_
      walk_at "w"
      rw [decide_eq_false m12.2]
      walk_at "w"
      exact next s4 (t3.tm tm4) d4
  · rintro σ H3 ⟨_, most, v1, v2, rfl, s3, t3, d3, hmx⟩
    rw [lx, List.drop_length] at hmx
    have : most = t.dep := by
      have e : zd (pd c c.length) (fo ([] : List PRow)) = 0 := by cases pd c c.length <;> rfl
      rw [e] at hmx; omega
    walk_at "w"
    rw [this]
    exact hQ H3 s3
end
end K02

namespace K02
open PySem PySem.Spec PyProof.Rows L2 SX
local macro_rules | `(tactic| walk_at "w1") => `(tactic| (first
  | with_reducible refine w_seq ?_ | with_reducible refine w_asgN ?_ | with_reducible refine w_c ?_
  | ((with_reducible refine' w_var ?wv ?_); (case wv => exact rfl))
  | with_reducible refine w_op ?_ | with_reducible refine w_un ?_ | with_reducible refine w_next ?_ | with_reducible refine w_brk ?_ | with_reducible refine w_cnt ?_
  | with_reducible refine w_ifS ?_ | with_reducible refine w_if ?_ | with_reducible refine w_test ?_ | with_reducible refine w_tB ?_ | with_reducible refine w_bl ?_ | with_reducible refine w_blI ?_
  | with_reducible refine w_and ?_ | with_reducible refine w_or ?_ | with_reducible refine w_not ?_ | with_reducible refine w_andV ?_ | with_reducible refine w_orV ?_ | with_reducible refine w_notV ?_
  | with_reducible refine w_nil ?_ | with_reducible refine w_cons ?_ | with_reducible refine w_cb ?_ | with_reducible refine w_call ?_ | with_reducible refine w_callS ?_ | with_reducible refine w_chain ?_
  | with_reducible refine w_tupN ?_ | with_reducible refine w_lstN ?_ | with_reducible refine w_sl ?_ | with_reducible refine w_noPart ?_ | with_reducible refine w_part ?_ | with_reducible refine w_partI ?_
  | with_reducible refine w_ret ?_ | with_reducible refine w_retN ?_ | with_reducible refine w_drop ?_ | with_reducible refine w_asg ?_ | with_reducible refine w_gSub ?_
  | ((with_reducible refine' w_aug ?wv ?_); (case wv => exact rfl)) | with_reducible refine w_ipI ?_
  | with_reducible refine w_addI ?_ | with_reducible refine w_subI ?_ | with_reducible refine w_ltI ?_ | with_reducible refine w_leI ?_ | with_reducible refine w_gtI ?_ | with_reducible refine w_geI ?_
  | with_reducible refine w_eqI ?_ | with_reducible refine w_neI ?_ | with_reducible refine w_eqT ?_ | with_reducible refine w_neT ?_ | with_reducible refine w_inS ?_ | with_reducible refine w_ninS ?_
  | with_reducible refine w_absI ?_ | with_reducible refine w_intI ?_ | with_reducible refine w_maxI ?_ | with_reducible refine w_minI ?_
  | with_reducible refine w_for ?_ | with_reducible refine w_iR1 ?_ | with_reducible refine w_iR2 ?_ | with_reducible refine w_iStr ?_ | with_reducible refine w_strI ?_ | with_reducible refine w_iList ?_ | with_reducible refine w_iTup ?_
  | with_reducible refine w_bm ?_ | with_reducible refine w_bm0 ?_ | with_reducible refine w_t ?_ | with_reducible refine w_f ?_ | with_reducible refine w_nt ?_ | with_reducible refine w_nx ?_ | with_reducible refine w_rt ?_ | with_reducible refine w_bk ?_ | with_reducible refine w_ct ?_ | with_reducible refine w_nf ?_ | with_reducible refine w_lc ?_ | with_reducible refine w_yes ?_ | with_reducible refine w_neg ?_ | with_reducible refine w_intB ?_ | with_reducible refine w_fld ?_ | with_reducible refine w_setf ?_ | with_reducible refine w_faug ?_ | with_reducible refine w_meth ?_ | with_reducible refine w_bmS ?_ | with_reducible refine w_start ?_ | with_reducible refine w_revL ?_ | with_reducible refine w_iR3 ?_))
local macro_rules | `(tactic| walk_at "w") => `(tactic| (repeat (first | walk_at "w1" | dsimp (config := { proj := false }) only [List.set_cons_zero, List.set_cons_succ])))
section
variable {w : World} {K : PySem.W.Frag} {mg : Str → Option Value} {base : Heap}

def arD (p : List Kd) : PyData := .tuple (p.map Kd.d)
def arsD (c : List G2) (n : Nat) : List PyData := (List.range n).map fun k => arD ((pa c k).headD [])
def pads (ps : List (List Kd)) : List PyData := (ps.map arD).reverse
theorem pads_cons (p : List Kd) (ps : List (List Kd)) : pads (p :: ps) = pads ps ++ [arD p] := by unfold pads; rw [List.map_cons, List.reverse_cons]
theorem pads_len (ps : List (List Kd)) : (pads ps).length = ps.length := by unfold pads; rw [List.length_reverse, List.length_map]
theorem arsD_succ (c : List G2) (n : Nat) : arsD c (n + 1) = arsD c n ++ [arD ((pa c n).headD [])] := by unfold arsD; rw [List.range_succ, List.map_append]; rfl
theorem arsD_len (c : List G2) (n : Nat) : (arsD c n).length = n := by unfold arsD; rw [List.length_map, List.length_range]
theorem arsD_at (c : List G2) {n k : Nat} (h : k < n) : (arsD c n)[k]? = some (arD ((pa c k).headD [])) := by
  unfold arsD; rw [List.getElem?_map, List.getElem?_range h]; rfl
/-- the data of a good code -/
def gd (c : List G2) : List PyData := cd (c.map upR)
theorem gd_at {c : List G2} {i : Nat} {r : G2} (e : c[i]? = some r) : (gd c)[i]? = some (upR r).d := by
  unfold gd cd; rw [List.getElem?_map, List.getElem?_map, e]; rfl
theorem gd_len (c : List G2) : (gd c).length = c.length := by unfold gd cd; rw [List.length_map, List.length_map]
theorem gd_ok (c : List G2) : ∀ r ∈ c.map upR, RowOk r := fun r hr => by
  obtain ⟨g, _, rfl⟩ := List.mem_map.mp hr; exact upR_ok g
/-- a good row's first word -/
def gw : G2 → List Nat
  | .app => wAPP
  | .lam _ => wLAM
  | .tip (.var _ _) => wVAR
  | .tip (.cst _ _) => wCONST
  | .tip (.bnd _) => wBOUND
theorem gw_d (r : G2) : ∃ rest, (upR r).d = .tuple (.str (S (gw r)) :: rest) := by
  cases r with
  | app => exact ⟨_, rfl⟩
  | lam k => exact ⟨_, rfl⟩
  | tip l => cases l <;> exact ⟨_, rfl⟩
theorem gw_tip (l : Lf) : gw (.tip l) ≠ wAPP ∧ gw (.tip l) ≠ wLAM := by
  cases l with
  | var w k => exact ⟨show wVAR ≠ wAPP by decide, show wVAR ≠ wLAM by decide⟩
  | cst w k => exact ⟨show wCONST ≠ wAPP by decide, show wCONST ≠ wLAM by decide⟩
  | bnd i => exact ⟨show wBOUND ≠ wAPP by decide, show wBOUND ≠ wLAM by decide⟩
def sp_law_arounds : Sp := sp1 fun x H Q _ => ∃ (p : Addr) (c : List G2), x = .ref p ∧ DL H p (gd c) ∧ fok c ∧ (fo c).length = 1 ∧ c.length ≤ 50000 ∧ ∀ q H', H q = none → Same H H' → DL H' q (arsD c c.length) → Q (.ref q) H'
theorem ok_law_arounds (T : Txt w K mg) {fd : FuncData} (F : Fn_law_arounds K fd) (hm : mg "_law_arounds" = some (.ref (He.ga K "_law_arounds")))  : CalX P w K mg base CX0 1 "_law_arounds" sp_law_arounds := by
  refine calx0 (k := 0) F hm sc_law_arounds (b_law_arounds F) (fun _ _ _ _ h => sp1_len h) (fun cdv A outer s H vs Q E hr h => ?_)
  obtain ⟨x0, rfl, h⟩ := h
  refine ⟨_, (pss_cons (ps_set (i := 1) sc_law_arounds.nd rfl (Or.inl rfl) (pe_lst (pa_cons (pe_tup pa_nil) pa_nil)))
    (pss_cons (ps_set (i := 2) sc_law_arounds.nd rfl (Or.inl rfl) (pe_lst pa_nil))
    (pss_cons (ps_for PassesOwn.never rfl (pi_list (pv 0)) (pg_name (i := 3) sc_law_arounds.nd rfl (Or.inl rfl))
    (pss_cons (ps_set (i := 4) sc_law_arounds.nd rfl (Or.inl rfl) (pe_bm0 PySem.F.plainAttrs_list PySem.F.slot_list_pop PySem.F.type_list_pop mt_pop (pv 1)))
    (pss_cons (ps_expr (pe_bm PySem.F.plainAttrs_list PySem.F.slot_list_append PySem.F.type_list_append mt_append (pv 2) (pa_cons (pv 4) pa_nil)))
    (pss_one (ps_if (pt_cmpR op_eq (pe_ix ix_tup (pv 3) pe_int (fun _ _ => rfl)) pe_str (nomark _))
    (pss_cons (ps_expr (pe_bm PySem.F.plainAttrs_list PySem.F.slot_list_append PySem.F.type_list_append mt_append (pv 1) (pa_cons (pv 4) pa_nil)))
    (pss_one (ps_expr (pe_bm PySem.F.plainAttrs_list PySem.F.slot_list_append PySem.F.type_list_append mt_append (pv 1) (pa_cons (pv 4) pa_nil)))))
    (pss_one (ps_if (pt_cmpR op_eq (pe_ix ix_tup (pv 3) pe_int (fun _ _ => rfl)) pe_str (nomark _))
    (pss_one (ps_expr (pe_bm PySem.F.plainAttrs_list PySem.F.slot_list_append PySem.F.type_list_append mt_append (pv 1) (pa_cons (pe_op op_catT (pe_tup (pa_cons (pe_ix ix_tup (pv 3) pe_int (fun _ _ => rfl)) pa_nil)) (pv 4)) pa_nil))))
    pss_nil)))))))
    (pss_one (ps_ret (pv 2)))))), ?_⟩
  rw [show start ["code", "todo", "arounds", "row", "around"] [x0] = [some x0, none, none, none, none] from rfl]
  have ec0 : Str.ofString "app" = S [97,112,112] := S_ofs (by decide +kernel)
  have ec1 : Str.ofString "lam" = S [108,97,109] := S_ofs (by decide +kernel)
  rw [ec0, ec1]
  obtain ⟨p, c, rfl, hd, hok, hfo, hz, hQ⟩ := h
  try dsimp only [cxOf]
  walk_at "w"
  refine t_new .nil (fun p0 H0 hp0 s0 t0 => ?_)
  walk_at "w"
  refine l_new (ds := pads [[]]) (.cons t0 .nil) (fun st H1 hst s1 d1 => ?_)
  walk_at "w"
  refine l_new (ds := []) .nil (fun rs H2 hrs s2 r2 => ?_)
  walk_at "w"
  obtain ⟨xs, e0, tx0⟩ := hd
  have lx : xs.length = c.length := by rw [tx0.len, gd_len]
  have s02 := (s0.tr s1).tr s2
  have fr : ∀ {q : Addr} {Ha Hb : Hp}, Same Ha Hb → Hb q = none → Ha q = none := fun {q Ha Hb} s z => by
    cases e : Ha q with
    | none => rfl
    | some o => rw [s q o e] at z; cases z
  have hst0 : H st = none := fr s0 hst
  have hrs0 : H rs = none := fr (s0.tr s1) hrs
  have hne : st ≠ rs := fun z => by obtain ⟨_, e, _⟩ := d1; rw [z] at e; rw [e] at hrs; cases hrs
  have hlen := fun k hk => pend_len (ap := id) (lm := fun k p => k :: p) (p0 := [([] : List Kd)]) hok hfo.symm k hk
  refine w_lstI (SqL.of (s02 _ _ e0)) ?_
  refine for_list (xs := xs) (fun i σ H' => i ≤ c.length ∧ ∃ (v1 v2 : Option V), σ = [some (.ref p), some (.ref st), some (.ref rs), v1, v2] ∧ Same H H' ∧ TDs H' xs (gd c) ∧ DL H' st (pads (pa c i)) ∧ DL H' rs (arsD c i))
    ⟨Nat.zero_le _, _, _, rfl, s02, tx0.tm (Tm.same s02), d1.same s2, r2⟩ (fun i σ H' _ h => by obtain ⟨_, _, _, _, h, _⟩ := h; exact SqL.of (h _ _ e0)) ?_ ?_
  · rintro i x σ H3 hx ⟨_, v1, v2, rfl, s3, t3, d3, r3⟩
    have hi : i < c.length := by rw [← lx]; exact (List.getElem?_eq_some_iff.mp hx).1
    have ek : c[i]? = some c[i] := List.getElem?_eq_getElem hi
    obtain ⟨d, ed, td⟩ := t3.get' hx
    rw [gd_at ek] at ed
    cases ed
    have hnx := pend_at (ap := id) (lm := fun k p => k :: p) (p0 := [([] : List Kd)]) ek
    have hlk := hlen i (by omega)
    have hpos := fo_ne hok ek
    have hfl := fo_len hok i
    obtain ⟨q, ps, hp⟩ := one_of (show 1 ≤ (pa c i).length by unfold pa; omega)
    have hq : q.length ≤ i := pa_len (by omega) (by rw [hp]; exact List.mem_cons_self)
    generalize c[i] = r at ek td hnx
    have hnx : pa c (i + 1) = nxt id (fun k p => k :: p) r (q :: ps) := by rw [← hp]; exact hnx
    have har : arsD c (i + 1) = arsD c i ++ [arD q] := by rw [arsD_succ, hp]; rfl
    rw [hnx, har]
    rw [hp] at d3
    have hlq : ps.length + 1 ≤ c.length - i := by have : (pa c i).length = _ := hlk; rw [hp] at this; have : ps.length + 1 = _ := this; omega
    rw [pads_cons] at d3
    obtain ⟨rest, erd⟩ := gw_d r
    have tdx : TD H3 x (.tuple (.str (S (gw r)) :: rest)) := by rw [← erd]; exact td
    dsimp only [gName]
    walk_at "w"
    refine l_ty d3 ?_
    walk_at "w"
    refine l_pop d3 (fun y1 H4 ty1 d4 x4 => ?_)
    walk_at "w"
    have tm4 := d3.tm_ex x4
    obtain ⟨_, dl3⟩ := d3.lst
    have r4 := r3.ex x4 hne.symm dl3
    refine l_ty r4 ?_
    walk_at "w"
    refine l_app r4 ty1 (fun H5 r5 x5 => ?_) (by rw [arsD_len]; omega)
    walk_at "w"
    have tm5 := r4.tm_ex x5
    obtain ⟨_, rl4⟩ := r4.lst
    have d5 := d4.ex x5 hne rl4
    have s5 := (s3.ex hst0 x4).ex hrs0 x5
    have tdx5 := (tdx.tm tm4).tm tm5
    have ty5 := ty1.tm tm5
    refine t_ixS (n := 0) tdx5 rfl ?_
    walk_at "w"
    cases r with
    | app =>
      rw [show gw .app = wAPP from rfl, decide_eq_true rfl]
      walk_at "w"
      refine l_ty d5 ?_
      walk_at "w"
      refine l_app d5 ty5 (fun H6 d6 x6 => ?_) (by rw [pads_len]; omega)
      walk_at "w"
      obtain ⟨_, dl5⟩ := d5.lst
      refine l_ty d6 ?_
      walk_at "w"
      refine l_app d6 (ty5.tm (d5.tm_ex x6)) (fun H7 d7 x7 => ?_) (by rw [List.length_append, pads_len]; show ps.length + 1 ≤ 100000; omega)
      walk_at "w"
      obtain ⟨_, dl6⟩ := d6.lst
      refine ⟨hi, _, _, rfl, (s5.ex hst0 x6).ex hst0 x7, t3.tm (((tm4.tr tm5).tr (d5.tm_ex x6)).tr (d6.tm_ex x7)), ?_, (r5.ex x6 hne.symm dl5).ex x7 hne.symm dl6⟩
      show DL H7 st (pads (q :: q :: ps))
      rw [pads_cons, pads_cons]; exact d7
    | lam kk =>
      rw [show gw (.lam kk) = wLAM from rfl, decide_eq_false (by decide)]
      walk_at "w"
      refine t_ixS (n := 0) tdx5 rfl ?_
      walk_at "w"
      rw [show gw (.lam kk) = wLAM from rfl, decide_eq_true rfl]
      walk_at "w"
      refine l_ty d5 ?_
      walk_at "w"
      refine t_ix (n := 1) (show TD H5 x (.tuple [.str (S wLAM), kk.d]) from (td.tm tm4).tm tm5) rfl (fun y2 ty2 => ?_)
      walk_at "w"
      refine t_new (ds := [kk.d]) (.cons ty2 .nil) (fun p6 H6 hp6 s6 t6 => ?_)
      walk_at "w"
      refine t_cat t6 (ty5.tm (Tm.same s6)) (by simp) (fun z7 H7 s7 t7 => ?_) (by rw [List.length_map]; show 1 + q.length ≤ 100000; omega)
      walk_at "w"
      have s67 := s6.tr s7
      refine l_app (d5.same s67) (d := arD (kk :: q)) t7 (fun H8 d8 x8 => ?_) (by rw [pads_len]; omega)
      walk_at "w"
      obtain ⟨_, dl7⟩ := (d5.same s67).lst
      refine ⟨hi, _, _, rfl, (s5.tr s67).ex hst0 x8, t3.tm (((tm4.tr tm5).tr (Tm.same s67)).tr ((d5.same s67).tm_ex x8)), ?_, (r5.same s67).ex x8 hne.symm dl7⟩
      show DL H8 st (pads ((kk :: q) :: ps))
      rw [pads_cons]; exact d8
    | tip l =>
      have m12 := gw_tip l
      rw [decide_eq_false m12.1]
      walk_at "w"
      refine t_ixS (n := 0) tdx5 rfl ?_
      walk_at "w"
      rw [decide_eq_false m12.2]
      walk_at "w"
      exact ⟨hi, _, _, rfl, s5, t3.tm (tm4.tr tm5), d5, r5⟩
  · rintro σ H3 ⟨_, v1, v2, rfl, s3, t3, d3, r3⟩
    rw [lx] at r3
    walk_at "w"
    exact hQ rs H3 hrs0 s3 r3
end
end K02

namespace K02
open PySem PySem.Spec PyProof.Rows L2 SX
local macro_rules | `(tactic| walk_at "w1") => `(tactic| (first
  | with_reducible refine w_seq ?_ | with_reducible refine w_asgN ?_ | with_reducible refine w_c ?_
  | ((with_reducible refine' w_var ?wv ?_); (case wv => exact rfl))
  | with_reducible refine w_op ?_ | with_reducible refine w_un ?_ | with_reducible refine w_next ?_ | with_reducible refine w_brk ?_ | with_reducible refine w_cnt ?_
  | with_reducible refine w_ifS ?_ | with_reducible refine w_if ?_ | with_reducible refine w_test ?_ | with_reducible refine w_tB ?_ | with_reducible refine w_bl ?_ | with_reducible refine w_blI ?_
  | with_reducible refine w_and ?_ | with_reducible refine w_or ?_ | with_reducible refine w_not ?_ | with_reducible refine w_andV ?_ | with_reducible refine w_orV ?_ | with_reducible refine w_notV ?_
  | with_reducible refine w_nil ?_ | with_reducible refine w_cons ?_ | with_reducible refine w_cb ?_ | with_reducible refine w_call ?_ | with_reducible refine w_callS ?_ | with_reducible refine w_chain ?_
  | with_reducible refine w_tupN ?_ | with_reducible refine w_lstN ?_ | with_reducible refine w_sl ?_ | with_reducible refine w_noPart ?_ | with_reducible refine w_part ?_ | with_reducible refine w_partI ?_
  | with_reducible refine w_ret ?_ | with_reducible refine w_retN ?_ | with_reducible refine w_drop ?_ | with_reducible refine w_asg ?_ | with_reducible refine w_gSub ?_
  | ((with_reducible refine' w_aug ?wv ?_); (case wv => exact rfl)) | with_reducible refine w_ipI ?_
  | with_reducible refine w_addI ?_ | with_reducible refine w_subI ?_ | with_reducible refine w_ltI ?_ | with_reducible refine w_leI ?_ | with_reducible refine w_gtI ?_ | with_reducible refine w_geI ?_
  | with_reducible refine w_eqI ?_ | with_reducible refine w_neI ?_ | with_reducible refine w_eqT ?_ | with_reducible refine w_neT ?_ | with_reducible refine w_inS ?_ | with_reducible refine w_ninS ?_
  | with_reducible refine w_absI ?_ | with_reducible refine w_intI ?_ | with_reducible refine w_maxI ?_ | with_reducible refine w_minI ?_
  | with_reducible refine w_for ?_ | with_reducible refine w_iR1 ?_ | with_reducible refine w_iR2 ?_ | with_reducible refine w_iStr ?_ | with_reducible refine w_strI ?_ | with_reducible refine w_iList ?_ | with_reducible refine w_iTup ?_
  | with_reducible refine w_bm ?_ | with_reducible refine w_bm0 ?_ | with_reducible refine w_t ?_ | with_reducible refine w_f ?_ | with_reducible refine w_nt ?_ | with_reducible refine w_nx ?_ | with_reducible refine w_rt ?_ | with_reducible refine w_bk ?_ | with_reducible refine w_ct ?_ | with_reducible refine w_nf ?_ | with_reducible refine w_lc ?_ | with_reducible refine w_yes ?_ | with_reducible refine w_neg ?_ | with_reducible refine w_intB ?_ | with_reducible refine w_fld ?_ | with_reducible refine w_setf ?_ | with_reducible refine w_faug ?_ | with_reducible refine w_meth ?_ | with_reducible refine w_bmS ?_ | with_reducible refine w_start ?_ | with_reducible refine w_revL ?_ | with_reducible refine w_iR3 ?_))
local macro_rules | `(tactic| walk_at "w") => `(tactic| (repeat (first | walk_at "w1" | dsimp (config := { proj := false }) only [List.set_cons_zero, List.set_cons_succ])))
section
variable {w : World} {K : PySem.W.Frag} {mg : Str → Option Value} {base : Heap}

def kds (ks : List Kd) : List PyData := (ks.map Kd.d).reverse
theorem kds_cons (k : Kd) (ks : List Kd) : kds (k :: ks) = kds ks ++ [k.d] := by unfold kds; rw [List.map_cons, List.reverse_cons]
theorem kds_len (ks : List Kd) : (kds ks).length = ks.length := by unfold kds; rw [List.length_reverse, List.length_map]
theorem tys_len : ∀ {ps : List (List Kd)} {ts : List Gt}, ps.length = ts.length → (tys ps ts).length = ts.length
  | [], [], _ => rfl
  | p :: ps, t :: ts, h => by show (tys ps ts).length + 1 = ts.length + 1; rw [tys_len (by simpa using h)]
  | [], _ :: _, h => by cases h
  | _ :: _, [], h => by cases h
def sp_law_typed : Sp := sp1 fun x H Q _ => ∃ (p : Addr) (c : List G2) (t : Gt), x = .ref p ∧ DL H p (gd c) ∧ fok c ∧ fo c = [t] ∧ (∀ r ∈ c, r.gok) ∧ t.dep ≤ 50 ∧ c.length ≤ 50000 ∧ ∀ v H', Same H H' → OptK H' v (typed t []) → Q v H'
theorem ok_law_typed (T : Txt w K mg) {fd : FuncData} (F : Fn_law_typed K fd) (hm : mg "_law_typed" = some (.ref (He.ga K "_law_typed"))) (c_law_arounds : CalX P w K mg base CX0 1 "_law_arounds" sp_law_arounds) : CalX P w K mg base CX0 2 "_law_typed" sp_law_typed := by
  refine calx0 (k := 1) F hm sc_law_typed (b_law_typed F) (fun _ _ _ _ h => sp1_len h) (fun cdv A outer s H vs Q E hr h => ?_)
  obtain ⟨x0, rfl, h⟩ := h
  refine ⟨_, (pss_cons (ps_set (i := 1) sc_law_typed.nd rfl (Or.inl rfl) (pe_cx c_law_arounds hr (by decide) rfl pass0 (pa_cons (pv 0) pa_nil)))
    (pss_cons (ps_set (i := 2) sc_law_typed.nd rfl (Or.inl rfl) (pe_lst pa_nil))
    (pss_cons (ps_for PassesOwn.never rfl (pi_range3 (by rfl) T.f_range (pa_cons (pe_op op_subI (pe_callB call_lenQ (by rfl) T.f_len PySem.boot_len (pa_cons (pv 0) pa_nil)) pe_int) (pa_cons (pe_un un_neg pe_int) (pa_cons (pe_un un_neg pe_int) pa_nil)))) (pg_name (i := 3) sc_law_typed.nd rfl (Or.inl rfl))
    (pss_cons (ps_set (i := 4) sc_law_typed.nd rfl (Or.inl rfl) (pe_ix ix_list (pv 0) (pv 3) (fun _ _ => rfl)))
    (pss_one (ps_if (pt_cmpR op_eq (pe_ix ix_tup (pv 4) pe_int (fun _ _ => rfl)) pe_str (nomark _))
    (pss_cons (ps_if (pt_cmpR op_geI (pe_ix ix_tup (pv 4) pe_int (fun _ _ => rfl)) (pe_callB call_lenQ (by rfl) T.f_len PySem.boot_len (pa_cons (pe_ix ix_list (pv 1) (pv 3) (fun _ _ => rfl)) pa_nil)) (nomark _))
    (pss_one (ps_ret pe_non))
    pss_nil)
    (pss_one (ps_expr (pe_bm PySem.F.plainAttrs_list PySem.F.slot_list_append PySem.F.type_list_append mt_append (pv 2) (pa_cons (pe_ix ix_tup (pe_ix ix_list (pv 1) (pv 3) (fun _ _ => rfl)) (pe_ix ix_tup (pv 4) pe_int (fun _ _ => rfl)) (fun _ _ => rfl)) pa_nil)))))
    (pss_one (ps_if (pt_cmpR op_eq (pe_ix ix_tup (pv 4) pe_int (fun _ _ => rfl)) pe_str (nomark _))
    (pss_cons (ps_set (i := 5) sc_law_typed.nd rfl (Or.inl rfl) (pe_bm0 PySem.F.plainAttrs_list PySem.F.slot_list_pop PySem.F.type_list_pop mt_pop (pv 2)))
    (pss_one (ps_expr (pe_bm PySem.F.plainAttrs_list PySem.F.slot_list_append PySem.F.type_list_append mt_append (pv 2) (pa_cons (pe_tup (pa_cons pe_str (pa_cons (pe_ix ix_tup (pv 4) pe_int (fun _ _ => rfl)) (pa_cons (pv 5) pa_nil)))) pa_nil)))))
    (pss_one (ps_if (pt_cmpR op_eq (pe_ix ix_tup (pv 4) pe_int (fun _ _ => rfl)) pe_str (nomark _))
    (pss_cons (ps_set (i := 6) sc_law_typed.nd rfl (Or.inl rfl) (pe_bm0 PySem.F.plainAttrs_list PySem.F.slot_list_pop PySem.F.type_list_pop mt_pop (pv 2)))
    (pss_cons (ps_set (i := 7) sc_law_typed.nd rfl (Or.inl rfl) (pe_bm0 PySem.F.plainAttrs_list PySem.F.slot_list_pop PySem.F.type_list_pop mt_pop (pv 2)))
    (pss_cons (ps_if (PW.pt (pw_or (pt_cmpR op_ne (pe_ix ix_tup (pv 6) pe_int (fun _ _ => rfl)) pe_str (nomark _)) (pw_or1 (pt_cmpR (op_neN hr) (pe_ix ix_tup (pv 6) pe_int (fun _ _ => rfl)) (pv 7) (nomark _)))))
    (pss_one (ps_ret pe_non))
    pss_nil)
    (pss_one (ps_expr (pe_bm PySem.F.plainAttrs_list PySem.F.slot_list_append PySem.F.type_list_append mt_append (pv 2) (pa_cons (pe_ix ix_tup (pv 6) pe_int (fun _ _ => rfl)) pa_nil)))))))
    (pss_one (ps_expr (pe_bm PySem.F.plainAttrs_list PySem.F.slot_list_append PySem.F.type_list_append mt_append (pv 2) (pa_cons (pe_ix ix_tup (pv 4) pe_int (fun _ _ => rfl)) pa_nil))))))))))))
    (pss_one (ps_ret (pe_ix ix_list (pv 2) (pe_un un_neg pe_int) (fun _ _ => rfl))))))), ?_⟩
  rw [show start ["code", "arounds", "stack", "k", "row", "kind", "function", "argument"] [x0] = [some x0, none, none, none, none, none, none, none] from rfl]
  have ec0 : Str.ofString "bound" = S [98,111,117,110,100] := S_ofs (by decide +kernel)
  have ec1 : Str.ofString "lam" = S [108,97,109] := S_ofs (by decide +kernel)
  have ec2 : Str.ofString "app" = S [97,112,112] := S_ofs (by decide +kernel)
  have ec3 : Str.ofString "to" = S [116,111] := S_ofs (by decide +kernel)
  rw [ec0, ec1, ec2, ec3]
  obtain ⟨p, c, t, rfl, hd, hok, hfo, hg, htd, hz, hQ⟩ := h
  have hf1 : (fo c).length = 1 := by rw [hfo]; rfl
  have hcl : 1 ≤ c.length := by
    have := fo_len hok 0
    rw [List.drop_zero, hf1] at this; omega
  try dsimp only [cxOf]
  walk_at "w"
  refine ⟨_, rfl, p, c, rfl, hd, hok, hf1, hz, fun ra H1 hra s1 r1 => ?_⟩
  walk_at "w"
  refine n_L (fun st H2 hst s2 e2 => ?_)
  walk_at "w"
  have s12 := s1.tr s2
  refine l_len (hd.same s12) ?_
  rw [gd_len]
  walk_at "w"
  have fr : ∀ {q : Addr} {Ha Hb : Hp}, Same Ha Hb → Hb q = none → Ha q = none := fun {q Ha Hb} s z => by
    cases e : Ha q with
    | none => rfl
    | some o => rw [s q o e] at z; cases z
  have hst0 : H st = none := fr s1 hst
  have hnr : ra ≠ st := fun z => by obtain ⟨_, e, _⟩ := r1; rw [z] at e; rw [e] at hst; cases hst
  have hlen := fun k hk => pend_len (ap := id) (lm := fun k p => k :: p) (p0 := [([] : List Kd)]) hok hf1.symm k hk
  have hrg := RgC.neg (i := (c.length : Int) - 1) (j := -1) (by omega) (by omega) (by omega) (by omega)
  rw [show ((c.length : Int) - 1 - -1).toNat = c.length by omega] at hrg
  refine ⟨_, _, _, _, rfl, hrg, ?_⟩
  have bad : ∀ {H' : Hp} {k : Nat}, Same H H' → k ≤ c.length → none ∈ tys (pa c k) (fo (c.drop k)) → Q .non H' := fun {H' k} s hk z => by
    have z0 := tys_bad hok hf1 k hk z
    rw [hfo] at z0
    have z0 : none ∈ [typed t []] := z0
    have := List.mem_singleton.mp z0
    exact hQ .non H' s (by rw [← this]; rfl)
  refine for_rangeC (fun i σ H' => i ≤ c.length ∧ ∃ (v1 v2 v3 v4 v5 : Option V) (ks : List Kd), σ = [some (.ref p), some (.ref ra), some (.ref st), v1, v2, v3, v4, v5] ∧ Same H H' ∧ DL H' p (gd c) ∧ DL H' ra (arsD c c.length) ∧ DL H' st (kds ks) ∧ tys (pa c (c.length - i)) (fo (c.drop (c.length - i))) = ks.map some)
    ⟨Nat.zero_le _, _, _, _, _, _, [], rfl, s12, hd.same s12, r1.same s2, ⟨[], e2, .nil⟩, by rw [show c.length - 0 = c.length from rfl, List.drop_length]; cases pa c c.length <;> rfl⟩ ?_ ?_
  · rintro i σ H3 hi ⟨_, v1, v2, v3, v4, v5, ks, rfl, s3, d3, r3, k3, hty⟩
    obtain ⟨k, hk⟩ : ∃ k, k = c.length - (i + 1) := ⟨_, rfl⟩
    rw [show c.length - i = k + 1 by omega] at hty
    rw [← hk]
    have hkl : k < c.length := by omega
    have ek : c[k]? = some c[k] := List.getElem?_eq_getElem hkl
    have hnx := pend_at (ap := id) (lm := fun k p => k :: p) (p0 := [([] : List Kd)]) ek
    have hlk := hlen k (by omega)
    have hpos := fo_ne hok ek
    have hfl := fo_len hok (k + 1)
    obtain ⟨q, ps, hp⟩ := one_of (show 1 ≤ (pa c k).length by unfold pa; omega)
    have hqm : q ∈ pa c k := by rw [hp]; exact List.mem_cons_self
    have hqg := pa_gk hg (by omega) hqm
    have hqk : ∀ x ∈ q, x.ok ∧ x.ht ≤ 100 := fun x hx => ⟨(hqg x hx).1, Nat.le_trans x.ht_sz (hqg x hx).2⟩
    have hgk := gok_drop hok hg k
    have hdk := dep_drop hok (D := 50) (by rw [hfo]; intro t' ht'; rw [List.mem_singleton.mp ht']; exact htd) k (by omega)
    have hgr := hg _ (List.getElem_mem hkl)
    have hgdk := gd_at ek
    have hlt : ks.length = (fo (c.drop (k + 1))).length := by
      have e1 := tys_len (hlen (k + 1) (by omega))
      have : (tys (pa c (k + 1)) (fo (c.drop (k + 1)))).length = _ := e1
      rw [hty, List.length_map] at this
      exact this
    generalize c[k] = r at ek hnx hgr hgdk
    have hnx : pa c (k + 1) = nxt id (fun k p => k :: p) r (q :: ps) := by rw [← hp]; exact hnx
    rw [hnx] at hty
    have hbad : ∀ {H' : Hp}, Same H H' → none ∈ tys (q :: ps) (fo (c.drop k)) → Q .non H' := fun s z => bad s (k := k) (by omega) (by rw [hp]; exact z)
    have next : ∀ {H' : Hp} {u1 u2 u3 u4 u5 : Option V} (ks' : List Kd), Same H H' → DL H' p (gd c) → DL H' ra (arsD c c.length) → DL H' st (kds ks') → tys (q :: ps) (fo (c.drop k)) = ks'.map some → i + 1 ≤ c.length ∧ ∃ (w1 w2 w3 w4 w5 : Option V) (ks : List Kd), [some (.ref p), some (.ref ra), some (.ref st), u1, u2, u3, u4, u5] = [some (.ref p), some (.ref ra), some (.ref st), w1, w2, w3, w4, w5] ∧ Same H H' ∧ DL H' p (gd c) ∧ DL H' ra (arsD c c.length) ∧ DL H' st (kds ks) ∧ tys (pa c k) (fo (c.drop k)) = ks.map some :=
      fun ks' q1 q2 q3 q4 q5 => ⟨hi, _, _, _, _, _, ks', rfl, q1, q2, q3, q4, by rw [hp]; exact q5⟩
    have hnp : p ≠ st := fun z => by obtain ⟨_, e, _⟩ := hd; rw [z, hst0] at e; cases e
    dsimp only [gName]
    walk_at "w"
    rw [show (c.length : Int) - 1 + ((i : Nat) : Int) * -1 = (k : Int) by omega]
    refine l_ix d3 hgdk (fun x tx => ?_)
    walk_at "w"
    cases r with
    | app =>
      obtain ⟨f, a, ts, q1, q2⟩ := at_app hok ek
      rw [q1] at hty hlt hfl
      rw [q2] at hbad hgk hdk
      have hty : typed f q :: typed a q :: tys ps ts = ks.map some := hty
      obtain ⟨kf, ka, ks', rfl⟩ : ∃ kf ka ks', ks = kf :: ka :: ks' := by
        have hl : ks.length = ts.length + 1 + 1 := hlt
        match ks, hl with
        | a :: b :: r, _ => exact ⟨a, b, r, rfl⟩
        | [_], h => exact absurd h (by show ¬ 1 = _; omega)
        | [], h => exact absurd h (by show ¬ 0 = _; omega)
      rw [List.map_cons, List.map_cons, List.cons.injEq, List.cons.injEq] at hty
      obtain ⟨hf, ha, hts⟩ := hty
      have hfg := hgk _ List.mem_cons_self
      have hfd : max f.dep a.dep + 1 ≤ 50 := hdk _ List.mem_cons_self
      obtain ⟨fk, fh⟩ := typed_ht hfg.1 hqk hf
      obtain ⟨ak, ah⟩ := typed_ht hfg.2 hqk ha
      rw [kds_cons, kds_cons] at k3
      have hlk' : ks'.length + 1 + 1 ≤ c.length := by have : ts.length + 1 + 1 ≤ c.length - (k + 1) := hfl; have : ks'.length + 1 + 1 = ts.length + 1 + 1 := hlt; omega
      refine t_ixS (n := 0) (show TD H3 x (.tuple [.str (S wAPP)]) from tx) rfl ?_
      walk_at "w"
      rw [decide_eq_false (by decide)]
      walk_at "w"
      refine t_ixS (n := 0) (show TD H3 x (.tuple [.str (S wAPP)]) from tx) rfl ?_
      walk_at "w"
      rw [decide_eq_false (by decide)]
      walk_at "w"
      refine t_ixS (n := 0) (show TD H3 x (.tuple [.str (S wAPP)]) from tx) rfl ?_
      walk_at "w"
      rw [decide_eq_true rfl]
      walk_at "w"
      refine l_ty k3 ?_
      walk_at "w"
      refine l_pop k3 (fun yf H4 tf k4 x4 => ?_)
      walk_at "w"
      refine l_ty k4 ?_
      walk_at "w"
      refine l_pop k4 (fun ya H5 ta k5 x5 => ?_)
      walk_at "w"
      obtain ⟨_, kl3⟩ := k3.lst
      obtain ⟨_, kl4⟩ := k4.lst
      have s5 := (s3.ex hst0 x4).ex hst0 x5
      have d5 := (d3.ex x4 hnp kl3).ex x5 hnp kl4
      have r5 := (r3.ex x4 hnr kl3).ex x5 hnr kl4
      have tf := tf.tm (k4.tm_ex x5)
      have fail : (∀ y, kf ≠ .to ka y) → none ∈ tys (q :: ps) (.app f a :: ts) := fun hh => by
        refine List.mem_cons.mpr (.inl ?_)
        rw [typed_app, hf, ha]
        cases kf with
        | nm w => rfl
        | fr w => rfl
        | to x y =>
          dsimp only
          rw [if_neg (fun z => hh y (by rw [z]))]
      cases kf with
      | nm w' =>
        refine t_ixS (n := 0) (show TD H5 yf (.tuple [.str (S wNAMED), .str (S w')]) from tf) rfl ?_
        walk_at "w"
        rw [decide_eq_false (by decide)]
        walk_at "w"
        exact hbad s5 (fail fun y z => by cases z)
      | fr w' =>
        refine t_ixS (n := 0) (show TD H5 yf (.tuple [.str (S wFREE), .str (S w')]) from tf) rfl ?_
        walk_at "w"
        rw [decide_eq_false (by decide)]
        walk_at "w"
        exact hbad s5 (fail fun y z => by cases z)
      | to x1 y1 =>
        have tf : TD H5 yf (.tuple [.str (S wTO), x1.d, y1.d]) := tf
        have fh : max x1.ht y1.ht + 1 ≤ 100 + f.dep := fh
        refine t_ixS (n := 0) tf rfl ?_
        walk_at "w"
        rw [decide_eq_true rfl]
        walk_at "w"
        refine t_ix (n := 1) tf rfl (fun y2 t2 => ?_)
        walk_at "w"
        refine d_ne t2 ta (Kd.Sz fk.1 (by omega)) (Kd.Sz ak (by omega)) ?_
        rw [Kd.eqv]
        walk_at "w"
        refine w_ndec (fun hne => ?_) (fun heq => ?_)
        · walk_at "w"
          exact hbad s5 (fail fun y z => hne (by cases z; rfl))
        · walk_at "w"
          refine l_ty k5 ?_
          walk_at "w"
          refine t_ix (n := 2) tf rfl (fun y3 t3 => ?_)
          walk_at "w"
          refine l_app k5 t3 (fun H6 k6 x6 => ?_) (by rw [kds_len]; omega)
          walk_at "w"
          obtain ⟨_, kl5⟩ := k5.lst
          refine next (y1 :: ks') (s5.ex hst0 x6) (d5.ex x6 hnp kl5) (r5.ex x6 hnr kl5) (by rw [kds_cons]; exact k6) ?_
          rw [q2]
          show typed (.app f a) q :: tys ps ts = _
          rw [typed_app, hf, ha, hts, List.map_cons]
          dsimp only
          rw [if_pos heq]
    | lam kk =>
      obtain ⟨b, ts, q1, q2⟩ := at_lam hok ek
      rw [q1] at hty hlt hfl
      rw [q2] at hbad
      have hty : typed b (kk :: q) :: tys ps ts = ks.map some := hty
      obtain ⟨kb, ks', rfl⟩ : ∃ kb ks', ks = kb :: ks' := by
        have hl : ks.length = ts.length + 1 := hlt
        match ks, hl with
        | a :: r, _ => exact ⟨a, r, rfl⟩
        | [], h => exact absurd h (by show ¬ 0 = _; omega)
      rw [List.map_cons, List.cons.injEq] at hty
      obtain ⟨hb, hts⟩ := hty
      rw [kds_cons] at k3
      have hlk' : ks'.length + 1 ≤ c.length := by have : ts.length + 1 ≤ c.length - (k + 1) := hfl; have : ks'.length + 1 = ts.length + 1 := hlt; omega
      have tx : TD H3 x (.tuple [.str (S wLAM), kk.d]) := tx
      refine t_ixS (n := 0) tx rfl ?_
      walk_at "w"
      rw [decide_eq_false (by decide)]
      walk_at "w"
      refine t_ixS (n := 0) tx rfl ?_
      walk_at "w"
      rw [decide_eq_true rfl]
      walk_at "w"
      refine l_ty k3 ?_
      walk_at "w"
      refine l_pop k3 (fun yb H4 tb k4 x4 => ?_)
      walk_at "w"
      refine l_ty k4 ?_
      walk_at "w"
      refine t_ix (n := 1) (tx.tm (k3.tm_ex x4)) rfl (fun y2 t2 => ?_)
      walk_at "w"
      refine t_new (ds := [.str (S wTO), kk.d, kb.d]) (.cons (.str _) (.cons t2 (.cons tb .nil))) (fun p5 H5 hp5 s5 t5 => ?_)
      walk_at "w"
      refine l_app (d := (Kd.to kk kb).d) (k4.same s5) t5 (fun H6 k6 x6 => ?_) (by rw [kds_len]; omega)
      walk_at "w"
      obtain ⟨_, kl3⟩ := k3.lst
      obtain ⟨_, kl5⟩ := (k4.same s5).lst
      refine next (.to kk kb :: ks') (((s3.ex hst0 x4).tr s5).ex hst0 x6) (((d3.ex x4 hnp kl3).same s5).ex x6 hnp kl5) (((r3.ex x4 hnr kl3).same s5).ex x6 hnr kl5) (by rw [kds_cons]; exact k6) ?_
      rw [q2]
      show typed (.lam kk b) q :: tys ps ts = _
      rw [typed_lam, hb, hts, List.map_cons]
    | tip l =>
      have q2 := at_tip ek
      rw [q2] at hbad
      have hty : tys ps (fo (c.drop (k + 1))) = ks.map some := hty
      have hlk' : ks.length ≤ c.length := by omega
      have leaf : ∀ (y : V) (kk : Kd), typed (.tip l) q = some kk → TD H3 y kk.d → rAppend (.ref st) [y] H3 fun v H' => i + 1 ≤ c.length ∧ ∃ (w1 w2 w3 w4 w5 : Option V) (ks : List Kd), [some (.ref p), some (.ref ra), some (.ref st), some (.int (k : Int)), some x, v3, v4, v5] = [some (.ref p), some (.ref ra), some (.ref st), w1, w2, w3, w4, w5] ∧ Same H H' ∧ DL H' p (gd c) ∧ DL H' ra (arsD c c.length) ∧ DL H' st (kds ks) ∧ tys (pa c k) (fo (c.drop k)) = ks.map some := fun y kk hk' ty => by
        refine l_app k3 ty (fun H6 k6 x6 => ?_) (by rw [kds_len]; omega)
        obtain ⟨_, kl3⟩ := k3.lst
        have := next (H' := H6) (u1 := some (.int (k : Int))) (u2 := some x) (u3 := v3) (u4 := v4) (u5 := v5) (kk :: ks) (s3.ex hst0 x6) (d3.ex x6 hnp kl3) (r3.ex x6 hnr kl3) (by rw [kds_cons]; exact k6) (by
          rw [q2]
          show typed (.tip l) q :: tys ps _ = _
          rw [hk', hty, List.map_cons])
        exact this
      cases l with
      | bnd j =>
        have tx : TD H3 x (.tuple [.str (S wBOUND), .int (j : Int)]) := tx
        refine t_ixS (n := 0) tx rfl ?_
        walk_at "w"
        rw [decide_eq_true rfl]
        walk_at "w"
        refine t_ixI (n := 1) tx rfl ?_
        walk_at "w"
        have har : (arsD c c.length)[k]? = some (arD q) := by rw [arsD_at c hkl, hp]; rfl
        refine l_ix r3 har (fun y1 t1 => ?_)
        walk_at "w"
        refine t_len t1 ?_
        rw [List.length_map]
        walk_at "w"
        refine w_dec (fun hge => ?_) (fun hlt' => ?_)
        · walk_at "w"
          exact hbad s3 (List.mem_cons.mpr (.inl (by show none = q[j]?; rw [List.getElem?_eq_none (by omega)])))
        · walk_at "w"
          refine l_ty k3 ?_
          walk_at "w"
          refine l_ix r3 har (fun y2 t2 => ?_)
          walk_at "w"
          refine t_ixI (n := 1) tx rfl ?_
          have hj : j < q.length := by omega
          refine t_ix (n := j) t2 (by rw [List.getElem?_map, List.getElem?_eq_getElem hj]; rfl) (fun y3 t3 => ?_)
          walk_at "w"
          exact leaf y3 q[j] (List.getElem?_eq_getElem hj) t3
      | var w' kk =>
        have tx : TD H3 x (.tuple [.str (S wVAR), .str (S w'), kk.d]) := tx
        refine t_ixS (n := 0) tx rfl ?_
        walk_at "w"
        rw [decide_eq_false (by decide)]
        walk_at "w"
        refine t_ixS (n := 0) tx rfl ?_
        walk_at "w"
        rw [decide_eq_false (by decide)]
        walk_at "w"
        refine t_ixS (n := 0) tx rfl ?_
        walk_at "w"
        rw [decide_eq_false (by decide)]
        walk_at "w"
        refine l_ty k3 ?_
        walk_at "w"
        refine t_ix (n := 2) tx rfl (fun y3 t3 => ?_)
        walk_at "w"
        exact leaf y3 kk rfl t3
      | cst w' kk =>
        have tx : TD H3 x (.tuple [.str (S wCONST), .str (S w'), kk.d]) := tx
        refine t_ixS (n := 0) tx rfl ?_
        walk_at "w"
        rw [decide_eq_false (by decide)]
        walk_at "w"
        refine t_ixS (n := 0) tx rfl ?_
        walk_at "w"
        rw [decide_eq_false (by decide)]
        walk_at "w"
        refine t_ixS (n := 0) tx rfl ?_
        walk_at "w"
        rw [decide_eq_false (by decide)]
        walk_at "w"
        refine l_ty k3 ?_
        walk_at "w"
        refine t_ix (n := 2) tx rfl (fun y3 t3 => ?_)
        walk_at "w"
        exact leaf y3 kk rfl t3
  · rintro σ H3 ⟨_, v1, v2, v3, v4, v5, ks, rfl, s3, d3, r3, k3, hty⟩
    rw [Nat.sub_self, List.drop_zero, hfo] at hty
    have hty : [typed t []] = ks.map some := hty
    obtain ⟨k, rfl⟩ : ∃ k, ks = [k] := by
      have hl := congrArg List.length hty
      match ks, hl with
      | [k], _ => exact ⟨k, rfl⟩
      | [], z => cases z
      | _ :: _ :: _, z => simp at z
    have ht : typed t [] = some k := by have := hty; simpa using this
    walk_at "w"
    rw [show kds [k] = [] ++ [k.d] from rfl] at k3
    refine l_ixLast k3 (fun x tx => ?_)
    exact hQ x H3 s3 (by rw [ht]; exact tx)
end
end K02

namespace K02
open PySem PySem.Spec PyProof.Rows L2 SX
local macro_rules | `(tactic| walk_at "w1") => `(tactic| (first
  | with_reducible refine w_seq ?_ | with_reducible refine w_asgN ?_ | with_reducible refine w_c ?_
  | ((with_reducible refine' w_var ?wv ?_); (case wv => exact rfl))
  | with_reducible refine w_op ?_ | with_reducible refine w_un ?_ | with_reducible refine w_next ?_ | with_reducible refine w_brk ?_ | with_reducible refine w_cnt ?_
  | with_reducible refine w_ifS ?_ | with_reducible refine w_if ?_ | with_reducible refine w_test ?_ | with_reducible refine w_tB ?_ | with_reducible refine w_bl ?_ | with_reducible refine w_blI ?_
  | with_reducible refine w_and ?_ | with_reducible refine w_or ?_ | with_reducible refine w_not ?_ | with_reducible refine w_andV ?_ | with_reducible refine w_orV ?_ | with_reducible refine w_notV ?_
  | with_reducible refine w_nil ?_ | with_reducible refine w_cons ?_ | with_reducible refine w_cb ?_ | with_reducible refine w_call ?_ | with_reducible refine w_callS ?_ | with_reducible refine w_chain ?_
  | with_reducible refine w_tupN ?_ | with_reducible refine w_lstN ?_ | with_reducible refine w_sl ?_ | with_reducible refine w_noPart ?_ | with_reducible refine w_part ?_ | with_reducible refine w_partI ?_
  | with_reducible refine w_ret ?_ | with_reducible refine w_retN ?_ | with_reducible refine w_drop ?_ | with_reducible refine w_asg ?_ | with_reducible refine w_gSub ?_
  | ((with_reducible refine' w_aug ?wv ?_); (case wv => exact rfl)) | with_reducible refine w_ipI ?_
  | with_reducible refine w_addI ?_ | with_reducible refine w_subI ?_ | with_reducible refine w_ltI ?_ | with_reducible refine w_leI ?_ | with_reducible refine w_gtI ?_ | with_reducible refine w_geI ?_
  | with_reducible refine w_eqI ?_ | with_reducible refine w_neI ?_ | with_reducible refine w_eqT ?_ | with_reducible refine w_neT ?_ | with_reducible refine w_inS ?_ | with_reducible refine w_ninS ?_
  | with_reducible refine w_absI ?_ | with_reducible refine w_intI ?_ | with_reducible refine w_maxI ?_ | with_reducible refine w_minI ?_
  | with_reducible refine w_for ?_ | with_reducible refine w_iR1 ?_ | with_reducible refine w_iR2 ?_ | with_reducible refine w_iStr ?_ | with_reducible refine w_strI ?_ | with_reducible refine w_iList ?_ | with_reducible refine w_iTup ?_
  | with_reducible refine w_bm ?_ | with_reducible refine w_bm0 ?_ | with_reducible refine w_t ?_ | with_reducible refine w_f ?_ | with_reducible refine w_nt ?_ | with_reducible refine w_nx ?_ | with_reducible refine w_rt ?_ | with_reducible refine w_bk ?_ | with_reducible refine w_ct ?_ | with_reducible refine w_nf ?_ | with_reducible refine w_lc ?_ | with_reducible refine w_yes ?_ | with_reducible refine w_neg ?_ | with_reducible refine w_intB ?_ | with_reducible refine w_fld ?_ | with_reducible refine w_setf ?_ | with_reducible refine w_faug ?_ | with_reducible refine w_meth ?_ | with_reducible refine w_bmS ?_ | with_reducible refine w_start ?_ | with_reducible refine w_revL ?_ | with_reducible refine w_iR3 ?_))
local macro_rules | `(tactic| walk_at "w") => `(tactic| (repeat (first | walk_at "w1" | dsimp (config := { proj := false }) only [List.set_cons_zero, List.set_cons_succ])))
section
variable {w : World} {K : PySem.W.Frag} {mg : Str → Option Value} {base : Heap}

abbrev wINV : List Nat := [105,110,118,97,108,105,100]
abbrev wKIND : List Nat := [107,105,110,100]
def told : Option Kd → PyData
  | none => .tuple [.str (S wINV), .tuple []]
  | some k => .tuple [.str (S wKIND), k.d]
def sp_law_told : Sp := sp1 fun x H Q _ => (∃ g : Gt, g.gok ∧ TD H x (upT g).d ∧ ∀ v H', Same H H' → TD H' v (told (wf g)) → Q v H') ∨ ∃ t : PTr, TD H x t.d ∧ AK t 0 false ∧ ∀ v H', Same H H' → TD H' v (told none) → Q v H'
theorem ok_law_told (T : Txt w K mg) {fd : FuncData} (F : Fn_law_told K fd) (hm : mg "_law_told" = some (.ref (He.ga K "_law_told"))) (c_kind_of : CalX P w K mg base (L2.CX P w) 53 "kind_of" (sp_kind_of K)) : CalX P w K mg base CX0 54 "_law_told" sp_law_told := by
  refine calx0 (k := 53) F hm sc_law_told (b_law_told F) (fun _ _ _ _ h => sp1_len h) (fun cdv A outer s H vs Q E hr h => ?_)
  obtain ⟨x0, rfl, h⟩ := h
  refine ⟨_, (pss_cons (ps_try_manyA rfl rfl takes0 (fun W pn xe tk _ => (pss_one (ps_set (i := 1) sc_law_told.nd rfl (Or.inl rfl) (pe_cxS c_kind_of hr (by decide) rfl (fun σ => passAt tk σ) (by exact (pa_cons (pv 0) pa_nil))))))
    (HdsA.as_ (i := 2) sc_law_told.nd rfl rfl ⟨rfl, by decide, .inl T.g_InvalidTerm⟩ (fun a oe cls d pn hz hf => (pss_cons (ps_if (PW.pt (pw_or (pt_val (pe_callB (call_isEn hz hf) (by rfl) T.f_isinstance (by decide +kernel) (pa_cons (pv 2) (pa_cons (pe_gv T.v_TooLarge) pa_nil)))) (pw_or (pt_not (pt_val (pe_callB (call_isEn hz hf) (by rfl) T.f_isinstance (by decide +kernel) (pa_cons (pv 2) (pa_cons (pe_gv T.v_HallError) pa_nil))))) (pw_or1 (pt_not (pt_val (pe_callB (call_isEn hz hf) (by rfl) T.f_isinstance (by decide +kernel) (pa_cons (pv 2) (pa_cons (pe_bltn (v := .ty "ValueError") (by rfl) T.f_ValueError (by decide +kernel) rfl) pa_nil)))))))))
    (pss_one (ps_ret (pe_tup (pa_cons pe_str (pa_cons (pe_tup pa_nil) pa_nil)))))
    pss_nil)
    (pss_one (ps_ret (pe_tup (pa_cons pe_str (pa_cons (pe_tup pa_nil) pa_nil))))))) HdsA.nil))
    (pss_one (ps_ret (pe_tup (pa_cons pe_str (pa_cons (pv 1) pa_nil)))))), ?_⟩
  rw [show start ["term", "kind", "e"] [x0] = [some x0, none, none] from rfl]
  have ec0 : Str.ofString "kind" = S [107,105,110,100] := S_ofs (by decide +kernel)
  have ec1 : Str.ofString "invalid" = S [105,110,118,97,108,105,100] := S_ofs (by decide +kernel)
  have ec2 : Str.ofString "odd" = S [111,100,100] := S_ofs (by decide +kernel)
  rw [ec0, ec1, ec2]
  try dsimp only [cxOf]
  walk_at "w"
  rcases h with ⟨g, hg, hd, hQ⟩ | ⟨t, hd, hk, hQ⟩
  · refine ⟨_, rfl, .inl ⟨g, hg, hd, fun hn H1 s1 => ?_, fun k v H1 hk s1 t1 => ?_⟩⟩
    · refine ⟨true, T.x_InvalidTerm_InvalidTerm, fun _ ea hea => ?_, fun z => by cases z⟩
      dsimp only [endsAs]
      walk_at "w"
      refine ⟨_, _, false, _, rfl, rfl, T.e_InvalidTerm, rfl, fun u z => z, T.k_InvalidTerm_TooLarge, ?_⟩
      walk_at "w"
      refine ⟨_, _, true, _, rfl, rfl, T.e_InvalidTerm, rfl, fun u z => z, T.k_InvalidTerm_HallError, ?_⟩
      walk_at "w"
      refine ⟨_, _, true, _, rfl, rfl, T.e_InvalidTerm, rfl, fun u z => z, T.k_InvalidTerm_ValueError, ?_⟩
      walk_at "w"
      refine t_new .nil (fun p2 H2 hp2 s2 t2 => ?_)
      walk_at "w"
      refine t_new (ds := [.str (S wINV), .tuple []]) (.cons (.str _) (.cons t2 .nil)) (fun p3 H3 hp3 s3 t3 => ?_)
      exact hQ _ H3 ((s1.tr s2).tr s3) (by rw [hn]; exact t3)
    · walk_at "w"
      refine t_new (ds := [.str (S wKIND), k.d]) (.cons (.str _) (.cons t1 .nil)) (fun p3 H3 hp3 s3 t3 => ?_)
      exact hQ _ H3 (s1.tr s3) (by rw [hk]; exact t3)
  · refine ⟨_, rfl, .inr ⟨t, hd, hk, fun H1 s1 => ?_⟩⟩
    refine ⟨true, T.x_InvalidTerm_InvalidTerm, fun _ ea hea => ?_, fun z => by cases z⟩
    dsimp only [endsAs]
    walk_at "w"
    refine ⟨_, _, false, _, rfl, rfl, T.e_InvalidTerm, rfl, fun u z => z, T.k_InvalidTerm_TooLarge, ?_⟩
    walk_at "w"
    refine ⟨_, _, true, _, rfl, rfl, T.e_InvalidTerm, rfl, fun u z => z, T.k_InvalidTerm_HallError, ?_⟩
    walk_at "w"
    refine ⟨_, _, true, _, rfl, rfl, T.e_InvalidTerm, rfl, fun u z => z, T.k_InvalidTerm_ValueError, ?_⟩
    walk_at "w"
    refine t_new .nil (fun p2 H2 hp2 s2 t2 => ?_)
    walk_at "w"
    refine t_new (ds := [.str (S wINV), .tuple []]) (.cons (.str _) (.cons t2 .nil)) (fun p3 H3 hp3 s3 t3 => ?_)
    exact hQ _ H3 ((s1.tr s2).tr s3) t3


def sp_law_ask : Sp := sp2 fun x y H Q _ => ∃ p : Addr, x = .ref p ∧ ((y = .bl true ∧ ∃ (c : List G2) (t : Gt), DL H p (gd c) ∧ fok c ∧ fo c = [t] ∧ (∀ r ∈ c, r.gok) ∧ c.length ≤ 5000) ∨ (y = .bl false ∧ ∃ (c : List PRow) (t : PTr), DL H p (cd c) ∧ (∀ r ∈ c, RowOk r) ∧ fok c ∧ fo c = [t] ∧ AK t 0 false ∧ c.length ≤ 5000)) ∧ ∀ H', Same H H' → Q (.bl true) H'
theorem gd_map (c : List G2) : gd c = cd (c.map upR) := rfl
theorem up_fo {c : List G2} {t : Gt} (h : fo c = [t]) : fo (c.map upR) = [upT t] := by
  show fo (c.map (Rw.map _ _)) = _
  rw [fo_map, h]; rfl
theorem up_fok {c : List G2} {n : Nat} (h : Vc c n) : fok (c.map upR) := (Vc.map (κ' := PyData) (τ' := Tp) Kd.d (fun (l : Lf) => Tp.tip l.d) h).1
theorem shw_ints {a b : Nat} (ha : a ≤ 100000) (hb : b ≤ 100000) : Shw (.tuple [.int (a : Int), .int (b : Int)]) := by
  have l : ∀ n : Nat, n ≤ 100000 → ((n : Int)).natAbs.log2 < 1920 := fun n hn => by
    have : (n : Int).natAbs < 2 ^ 18 := Nat.lt_of_le_of_lt (show (n : Int).natAbs ≤ 100000 by omega) (by decide)
    by_cases h0 : (n : Int).natAbs = 0
    · rw [h0]; decide
    · exact Nat.lt_trans ((Nat.log2_lt h0).mpr this) (by decide)
  refine ⟨⟨by simp [PyData.canLay0, PyData.canLayAll0], by simp [PyData.depth, PyData.depthAll]⟩, by simp [PyData.eqv, PyData.eqvAll], by simp only [PyData.showable, PyData.showableAll, decide_eq_true (l a ha), decide_eq_true (l b hb), Bool.and_self], ?_⟩
  have h1 := PyData.shown_int_le (i := (a : Int)) (Nat.lt_of_le_of_lt (show (a : Int).natAbs ≤ 100000 by omega) (by decide))
  have h2 := PyData.shown_int_le (i := (b : Int)) (Nat.lt_of_le_of_lt (show (b : Int).natAbs ≤ 100000 by omega) (by decide))
  have h3 := tupleText_len_le (PyData.shownAll [.int (a : Int), .int (b : Int)])
  have e : (PyData.tuple [.int (a : Int), .int (b : Int)]).shown = tupleText (PyData.shownAll [.int (a : Int), .int (b : Int)]) := by simp only [PyData.shown]
  rw [e]
  simp only [PyData.shownAll, List.map_cons, List.map_nil, List.sum_cons, List.sum_nil, List.length_cons, List.length_nil] at h3 ⊢
  omega
theorem kd_tup (k : Kd) : ∃ ds, k.d = .tuple ds := by cases k <;> exact ⟨_, rfl⟩
theorem shw_kd {k : Kd} (h : k.ok) (h1 : k.ht ≤ 180) (h2 : k.sz ≤ 50000) : Shw k.d := ⟨Kd.Sz h h1, by rw [Kd.eqv]; exact decide_eq_true rfl, k.show_, Kd.shown h h2⟩
theorem inv_sz : Sz 180 (told none) := ⟨by simp only [told, PyData.canLay0, PyData.canLayAll0, strOk_S (show Cok wINV by show ∀ c ∈ wINV, c < 256; decide), Bool.and_self], by simp [told, PyData.depth, PyData.depthAll]⟩
theorem inv_eqv : PyData.eqv (told none) (told none) = true := by simp [told, PyData.eqv, PyData.eqvAll]
theorem ok_law_ask (T : Txt w K mg) {fd : FuncData} (F : Fn_law_ask K fd) (hm : mg "_law_ask" = some (.ref (He.ga K "_law_ask"))) (c_law_built : CalX P w K mg base CX0 1 "_law_built" sp_law_built) (c_law_depth : CalX P w K mg base CX0 1 "_law_depth" sp_law_depth) (c_law_same : CalG P w K mg base CX0 1 "_law_same" sp_law_same) (c_measure : CalX P w K mg base CX0 1 "measure" sp_measure) (c_law_typed : CalX P w K mg base CX0 2 "_law_typed" sp_law_typed) (c_law_told : CalX P w K mg base CX0 54 "_law_told" sp_law_told) : CalG P w K mg base CX0 55 "_law_ask" sp_law_ask := by
  refine calg0 (k := 54) F hm sc_law_ask (b_law_ask F) (fun _ _ _ _ h => sp2_len h) (fun cdv A outer s H vs Q E hr h => ?_)
  obtain ⟨x0, x1, rfl, h⟩ := h
  refine ⟨_, (pss_cons (ps_set (i := 2) sc_law_ask.nd rfl (Or.inl rfl) (pe_cx c_law_built hr.toRoom (by decide) rfl pass0 (pa_cons (pv 0) pa_nil)))
    (pss_cons (ps_set (i := 3) sc_law_ask.nd rfl (Or.inl rfl) pe_non)
    (Evl.pss_cut (ps_if (pt_val (pv 1))
    (pss_cons (ps_set (i := 4) sc_law_ask.nd rfl (Or.inl rfl) (pe_cx c_law_depth hr.toRoom (by decide) rfl pass0 (pa_cons (pv 0) pa_nil)))
    (pss_cons (ps_if (pt_not (pt_val (pe_cg c_law_same hr (by decide) rfl pass0 (pa_cons (pe_cx c_measure hr.toRoom (by decide) rfl pass0 (pa_cons (pv 2) pa_nil)) (pa_cons (pe_tup (pa_cons (pe_callB call_lenQ (by rfl) T.f_len PySem.boot_len (pa_cons (pv 0) pa_nil)) (pa_cons (pv 4) pa_nil))) pa_nil)))))
    (pss_one (ps_ret pe_bl))
    pss_nil)
    (pss_one (ps_if (PW.pt (pw_and (pt_cmpR op_leI (pe_callB call_lenQ (by rfl) T.f_len PySem.boot_len (pa_cons (pv 0) pa_nil)) pe_int (nomark _)) (pw_and1 (pt_cmpR op_leI (pv 4) pe_int (nomark _)))))
    (pss_one (ps_set (i := 3) sc_law_ask.nd rfl (Or.inl rfl) (pe_cx c_law_typed hr.toRoom (by decide) rfl pass0 (pa_cons (pv 0) pa_nil))))
    pss_nil))))
    pss_nil)
    (pss_cons (ps_set (i := 5) sc_law_ask.nd rfl (Or.inl rfl) (pe_cx c_law_told hr.toRoom (by decide) rfl pass0 (pa_cons (pv 2) pa_nil)))
    (pss_cons (ps_if (pt_cmpR op_isN (pv 3) pe_non (nomark _))
    (pss_one (ps_ret (pe_cmpR (op_eqN hr.toRoom) (pv 5) (pe_tup (pa_cons pe_str (pa_cons (pe_tup pa_nil) pa_nil))) (nomark _))))
    pss_nil)
    (pss_one (ps_ret (pe_and (pe_cmpR op_eq (pe_ix ix_tup (pv 5) pe_int (fun _ _ => rfl)) pe_str (nomark _)) (pe_one (pe_cg c_law_same hr (by decide) rfl pass0 (pa_cons (pe_ix ix_tup (pv 5) pe_int (fun _ _ => rfl)) (pa_cons (pv 3) pa_nil)))))))))))), ?_⟩
  rw [show start ["code", "good", "term", "due", "depth", "told"] [x0, x1] = [some x0, some x1, none, none, none, none] from rfl]
  have ec0 : Str.ofString "kind" = S [107,105,110,100] := S_ofs (by decide +kernel)
  have ec1 : Str.ofString "invalid" = S [105,110,118,97,108,105,100] := S_ofs (by decide +kernel)
  rw [ec0, ec1]
  obtain ⟨p, rfl, h, hQ⟩ := h
  try dsimp only [cxOf]
  walk_at "w"
  rcases h with ⟨rfl, c, t, hd, hok, hfo, hg, hz⟩ | ⟨rfl, c, t, hd, hR, hok, hfo, hk, hz⟩
  rotate_left
  · refine ⟨_, rfl, p, c, t, rfl, hd, hR, hok, hfo, by omega, fun v H1 s1 t1 => ?_⟩
    walk_at "w"
    refine w_mid (fun σ H' => H' = H1 ∧ σ = [some (.ref p), some (.bl false), some v, some .non, none, none]) ?_ ?_
    · walk_at "w"
      exact ⟨rfl, rfl⟩
    rintro σ H' ⟨rfl, rfl⟩
    walk_at "w"
    refine ⟨_, rfl, .inr ⟨t, t1, hk, fun u H2 s2 t2 => ?_⟩⟩
    walk_at "w"
    refine ⟨rfl, ?_⟩
    rw [decide_eq_true rfl]
    walk_at "w"
    refine t_new .nil (fun p3 H3 hp3 s3 t3 => ?_)
    walk_at "w"
    refine t_new (ds := [.str (S wINV), .tuple []]) (.cons (.str _) (.cons t3 .nil)) (fun p4 H4 hp4 s4 t4 => ?_)
    refine d_eq (t2.tm (Tm.same (s3.tr s4))) t4 inv_sz inv_sz ?_
    have e := inv_eqv
    unfold told at e ⊢
    rw [e]
    exact hQ H4 (((s1.tr s2).tr s3).tr s4)
  have hv : Vc c 1 := ⟨hok, by rw [hfo]; rfl⟩
  have hn : t.nodes = c.length := by
    have := fo_nodes hv
    rw [hfo] at this
    simpa using this
  have hgt : t.gok := fo_gok hv hg t (by rw [hfo]; exact List.mem_singleton.mpr rfl)
  have hdn : t.dep ≤ t.nodes := dep_nodes t
  refine ⟨_, rfl, p, c.map upR, upT t, rfl, hd, gd_ok c, up_fok hv, up_fo hfo, by rw [List.length_map]; omega, fun v H1 s1 t1 => ?_⟩
  walk_at "w"
  refine w_mid (fun σ H' => ∃ (vd : V) (v4 : Option V), σ = [some (.ref p), some (.bl true), some v, some vd, v4, none] ∧ Same H H' ∧ TD H' v (upT t).d ∧ OptK H' vd (wf t)) ?_ ?_
  · walk_at "w"
    refine ⟨_, rfl, p, c.map upR, upT t, rfl, hd.same s1, gd_ok c, up_fok hv, up_fo hfo, by rw [List.length_map]; omega, fun H2 s2 => ?_⟩
    rw [show (upT t).dep = t.dep from dep_map _ _ t]
    walk_at "w"
    refine ⟨_, rfl, t, t1.tm (Tm.same s2), by omega, fun m H3 s3 t3 => ?_⟩
    walk_at "w"
    have s13 := (s1.tr s2).tr s3
    refine l_len (hd.same s13) ?_
    rw [gd_len]
    walk_at "w"
    refine t_new (ds := [.int (c.length : Int), .int (t.dep : Int)]) (.cons (.int _) (.cons (.int _) .nil)) (fun p4 H4 hp4 s4 t4 => ?_)
    rw [hn] at t3
    refine ⟨_, _, rfl, _, t3.tm (Tm.same s4), t4, shw_ints (by omega) (by omega), ?_⟩
    walk_at "w"
    have s14 := s13.tr s4
    refine l_len (hd.same s14) ?_
    rw [gd_len]
    walk_at "w"
    have t14 := t1.tm (Tm.same ((s2.tr s3).tr s4))
    by_cases h1 : c.length ≤ 400
    · rw [decide_eq_true (show (c.length : Int) ≤ 400 by omega)]
      walk_at "w"
      by_cases h2 : t.dep ≤ 50
      · rw [decide_eq_true (show (t.dep : Int) ≤ 50 by omega)]
        walk_at "w"
        refine ⟨_, rfl, p, c, t, rfl, hd.same s14, hok, hfo, hg, h2, by omega, fun vd H5 s5 o5 => ?_⟩
        walk_at "w"
        refine ⟨vd, _, rfl, s14.tr s5, t14.tm (Tm.same s5), ?_⟩
        rw [wf_due, if_pos ⟨by omega, h2⟩]; exact o5
      · rw [decide_eq_false (show ¬ (t.dep : Int) ≤ 50 by omega)]
        walk_at "w"
        refine ⟨_, _, rfl, s14, t14, ?_⟩
        rw [wf_due, if_neg (fun z => h2 z.2)]; rfl
    · rw [decide_eq_false (show ¬ (c.length : Int) ≤ 400 by omega)]
      walk_at "w"
      refine ⟨_, _, rfl, s14, t14, ?_⟩
      rw [wf_due, if_neg (fun z => h1 (by have := z.1; omega))]; rfl
  rintro σ H2 ⟨vd, v4, rfl, s2, t2, o2⟩
  walk_at "w"
  refine ⟨_, rfl, .inl ⟨t, hgt, t2, fun u H3 s3 t3 => ?_⟩⟩
  walk_at "w"
  have o3 := o2.tm (Tm.same s3)
  refine ⟨rfl, ?_⟩
  rw [o3.isN]
  cases e : wf t with
  | none =>
    rw [e] at t3
    rw [show (none : Option Kd).isNone = true from rfl]
    walk_at "w"
    refine t_new .nil (fun p4 H4 hp4 s4 t4 => ?_)
    walk_at "w"
    refine t_new (ds := [.str (S wINV), .tuple []]) (.cons (.str _) (.cons t4 .nil)) (fun p5 H5 hp5 s5 t5 => ?_)
    refine d_eq (t3.tm (Tm.same (s4.tr s5))) t5 inv_sz inv_sz ?_
    have e := inv_eqv
    unfold told at e ⊢
    rw [e]
    exact hQ H5 (((s2.tr s3).tr s4).tr s5)
  | some k =>
    rw [e] at t3 o3
    rw [show (some k).isNone = false from rfl]
    walk_at "w"
    have hty : typed t [] = some k := by
      rw [wf_due] at e
      split at e
      · exact e
      · cases e
    have hdp : t.nodes ≤ 400 ∧ t.dep ≤ 50 := by
      rw [wf_due] at e
      split at e
      · assumption
      · cases e
    obtain ⟨k1, k2⟩ := typed_ht hgt (fun k hk => by cases hk) hty
    have k3 := typed_sz hgt (fun k hk => by cases hk) hty
    have t3 : TD H3 u (.tuple [.str (S wKIND), k.d]) := t3
    refine t_ixS (n := 0) t3 rfl ?_
    walk_at "w"
    rw [decide_eq_true rfl]
    walk_at "w"
    refine t_ix (n := 1) t3 rfl (fun y ty => ?_)
    walk_at "w"
    obtain ⟨ds, eds⟩ := kd_tup k
    have hsw := shw_kd k1 (by omega) (by omega)
    have o3 : TD H3 vd k.d := o3
    rw [eds] at ty o3 hsw
    refine ⟨_, _, rfl, ds, ty, o3, hsw, ?_⟩
    exact hQ H3 (s2.tr s3)
end
end K02

namespace K02
open PySem PySem.Spec PyProof.Rows L2 SX
local macro_rules | `(tactic| walk_at "w1") => `(tactic| (first
  | with_reducible refine w_seq ?_ | with_reducible refine w_asgN ?_ | with_reducible refine w_c ?_
  | ((with_reducible refine' w_var ?wv ?_); (case wv => exact rfl))
  | with_reducible refine w_op ?_ | with_reducible refine w_un ?_ | with_reducible refine w_next ?_ | with_reducible refine w_brk ?_ | with_reducible refine w_cnt ?_
  | with_reducible refine w_ifS ?_ | with_reducible refine w_if ?_ | with_reducible refine w_test ?_ | with_reducible refine w_tB ?_ | with_reducible refine w_bl ?_ | with_reducible refine w_blI ?_
  | with_reducible refine w_and ?_ | with_reducible refine w_or ?_ | with_reducible refine w_not ?_ | with_reducible refine w_andV ?_ | with_reducible refine w_orV ?_ | with_reducible refine w_notV ?_
  | with_reducible refine w_nil ?_ | with_reducible refine w_cons ?_ | with_reducible refine w_cb ?_ | with_reducible refine w_call ?_ | with_reducible refine w_callS ?_ | with_reducible refine w_chain ?_
  | with_reducible refine w_tupN ?_ | with_reducible refine w_lstN ?_ | with_reducible refine w_sl ?_ | with_reducible refine w_noPart ?_ | with_reducible refine w_part ?_ | with_reducible refine w_partI ?_
  | with_reducible refine w_ret ?_ | with_reducible refine w_retN ?_ | with_reducible refine w_drop ?_ | with_reducible refine w_asg ?_ | with_reducible refine w_gSub ?_
  | ((with_reducible refine' w_aug ?wv ?_); (case wv => exact rfl)) | with_reducible refine w_ipI ?_
  | with_reducible refine w_addI ?_ | with_reducible refine w_subI ?_ | with_reducible refine w_ltI ?_ | with_reducible refine w_leI ?_ | with_reducible refine w_gtI ?_ | with_reducible refine w_geI ?_
  | with_reducible refine w_eqI ?_ | with_reducible refine w_neI ?_ | with_reducible refine w_eqT ?_ | with_reducible refine w_neT ?_ | with_reducible refine w_inS ?_ | with_reducible refine w_ninS ?_
  | with_reducible refine w_absI ?_ | with_reducible refine w_intI ?_ | with_reducible refine w_maxI ?_ | with_reducible refine w_minI ?_
  | with_reducible refine w_for ?_ | with_reducible refine w_iR1 ?_ | with_reducible refine w_iR2 ?_ | with_reducible refine w_iStr ?_ | with_reducible refine w_strI ?_ | with_reducible refine w_iList ?_ | with_reducible refine w_iTup ?_
  | with_reducible refine w_bm ?_ | with_reducible refine w_bm0 ?_ | with_reducible refine w_t ?_ | with_reducible refine w_f ?_ | with_reducible refine w_nt ?_ | with_reducible refine w_nx ?_ | with_reducible refine w_rt ?_ | with_reducible refine w_bk ?_ | with_reducible refine w_ct ?_ | with_reducible refine w_nf ?_ | with_reducible refine w_lc ?_ | with_reducible refine w_yes ?_ | with_reducible refine w_neg ?_ | with_reducible refine w_intB ?_ | with_reducible refine w_fld ?_ | with_reducible refine w_setf ?_ | with_reducible refine w_faug ?_ | with_reducible refine w_meth ?_ | with_reducible refine w_bmS ?_ | with_reducible refine w_start ?_ | with_reducible refine w_revL ?_ | with_reducible refine w_iR3 ?_))
local macro_rules | `(tactic| walk_at "w") => `(tactic| (repeat (first | walk_at "w1" | dsimp (config := { proj := false }) only [List.set_cons_zero, List.set_cons_succ])))
section
variable {w : World} {K : PySem.W.Frag} {mg : Str → Option Value} {base : Heap}

/-- n kinds of at most m parts -/
def KL (H : Hp) (p : Addr) (n m : Nat) : Prop := ∃ ks : List Kd, DL H p (ks.map Kd.d) ∧ ks.length = n ∧ ∀ k ∈ ks, k.ok ∧ k.sz ≤ m
abbrev PoL (H : Hp) (p : Addr) : Prop := KL H p 4 5
section
variable {n m : Nat} {H H' : Hp} {p a : Addr}
theorem KL.same (h : KL H p n m) (s : Same H H') : KL H' p n m := let ⟨ws, h1, h2⟩ := h; ⟨ws, h1.same s, h2⟩
theorem KL.kb (h : KL H p n m) (P : Pot a H) (k : Kb a H H') (z : p ≠ a) : KL H' p n m := let ⟨ws, h1, h2⟩ := h; ⟨ws, DLkb h1 P k z, h2⟩
theorem KL.ex {q : Addr} (h : KL H p n m) (x : Ex q H H') (z : p ≠ q) {xs : List V} (hq : H q = some (.lst xs)) : KL H' p n m := let ⟨ws, h1, h2⟩ := h; ⟨ws, h1.ex x z hq, h2⟩
theorem DL.ne_pot {ds : List PyData} (h : DL H p ds) (P : Pot a H) (hn : ∀ i : Int, ds[0]? ≠ some (.int i)) : p ≠ a := fun z => by
  obtain ⟨xs, e, t⟩ := h
  obtain ⟨r, s, c, h1, _⟩ := P
  subst z
  rw [h1] at e
  cases e
  obtain ⟨d, e, td⟩ := t.get' (i := 0) (x := .int r) rfl
  cases td
  exact hn _ e
theorem KL.ne (h : KL H p n m) (P : Pot a H) (hn : 0 < n) : p ≠ a := by
  obtain ⟨ks, h1, h2, h3⟩ := h
  refine DL.ne_pot h1 P fun i z => ?_
  cases ks with
  | nil => have h2 : 0 = n := h2; omega
  | cons k ks => cases k <;> simp [Kd.d] at z
theorem KL.ix {K : PySem.W.Frag} {Q : VK} (h : KL H p n m) {i : Nat} (hi : i < n) (k : ∀ x (kd : Kd), kd.ok → kd.sz ≤ m → TD H x kd.d → Q x H) : rIxL K (.ref p) (.int (i : Int)) H Q := by
  obtain ⟨ks, h1, h2, h3⟩ := h
  have hi' : i < ks.length := by omega
  refine l_ix h1 (d := ks[i].d) (by rw [List.getElem?_map, List.getElem?_eq_getElem hi']; rfl) (fun x tx => ?_)
  exact k x _ (h3 _ (List.getElem_mem hi')).1 (h3 _ (List.getElem_mem hi')).2 tx
theorem KL.app {v : V} {k : Kd} {Q : VK} (h : KL H p n m) (hv : TD H v k.d) (hk : k.ok ∧ k.sz ≤ m) (hn : n ≤ 1000) (c : ∀ H', KL H' p (n + 1) m → Ex p H H' → Q .non H') : rAppend (.ref p) [v] H Q := by
  obtain ⟨ks, h1, h2, h3⟩ := h
  refine l_app h1 hv (fun H' d x => ?_) (by rw [List.length_map]; omega)
  refine c H' ⟨ks ++ [k], by rw [List.map_append]; exact d, by rw [List.length_append, h2]; rfl, fun k' hk' => ?_⟩ x
  rcases List.mem_append.mp hk' with hk' | hk'
  · exact h3 k' hk'
  · rw [List.mem_singleton.mp hk']; exact hk
theorem KL.lst (h : KL H p n m) : ∃ xs, H p = some (.lst xs) := let ⟨_, h1, _⟩ := h; h1.lst
theorem KL.ty {F : Prop} (h : KL H p n m) (k : F) : tyV K "list" (.ref p) H ∧ F := let ⟨_, h1, _⟩ := h; l_ty h1 k
end
def sp_law_pool : Sp := sp2 fun x y H Q _ => ∃ (a p : Addr), x = .ref a ∧ y = .ref p ∧ Pot a H ∧ NmL H p ∧ ∀ q H', H q = none → PoL H' q → Pot a H' → Kb a H H' → Q (.ref q) H'
theorem ok_law_pool (T : Txt w K mg) {fd : FuncData} (F : Fn_law_pool K fd) (hm : mg "_law_pool" = some (.ref (He.ga K "_law_pool"))) (c_law_take : CalX P w K mg base CX0 1 "_law_take" sp_law_take) : CalX P w K mg base CX0 2 "_law_pool" sp_law_pool := by
  refine calx0 (k := 1) F hm sc_law_pool (b_law_pool F) (fun _ _ _ _ h => sp2_len h) (fun cdv A outer s H vs Q E hr h => ?_)
  obtain ⟨x0, x1, rfl, h⟩ := h
  refine ⟨_, (pss_cons (ps_set (i := 2) sc_law_pool.nd rfl (Or.inl rfl) (pe_lst (pa_cons (pe_tup (pa_cons pe_str (pa_cons (pe_ix ix_list (pv 1) pe_int (fun _ _ => rfl)) pa_nil))) (pa_cons (pe_tup (pa_cons pe_str (pa_cons (pe_ix ix_list (pv 1) pe_int (fun _ _ => rfl)) pa_nil))) (pa_cons (pe_tup (pa_cons pe_str (pa_cons (pe_ix ix_list (pv 1) pe_int (fun _ _ => rfl)) pa_nil))) (pa_cons (pe_tup (pa_cons pe_str (pa_cons (pe_ix ix_list (pv 1) pe_int (fun _ _ => rfl)) pa_nil))) pa_nil))))))
    (pss_cons (ps_expr (pe_bm PySem.F.plainAttrs_list PySem.F.slot_list_append PySem.F.type_list_append mt_append (pv 2) (pa_cons (pe_tup (pa_cons pe_str (pa_cons pe_str pa_nil))) pa_nil)))
    (pss_cons (ps_set (i := 3) sc_law_pool.nd rfl (Or.inl rfl) (pe_lst (pa_cons (pe_ix ix_list (pv 2) (pe_cx c_law_take hr (by decide) rfl pass0 (pa_cons (pv 0) (pa_cons pe_int pa_nil))) (fun _ _ => rfl)) pa_nil)))
    (pss_cons (ps_for PassesOwn.never rfl (pi_range1 (by rfl) T.f_range (pa_cons pe_int pa_nil)) (pg_name (i := 4) sc_law_pool.nd rfl (Or.inl rfl))
    (pss_cons (ps_set (i := 5) sc_law_pool.nd rfl (Or.inl rfl) (pe_ix ix_list (pv 2) (pe_cx c_law_take hr (by decide) rfl pass0 (pa_cons (pv 0) (pa_cons pe_int pa_nil))) (fun _ _ => rfl)))
    (pss_cons (ps_set (i := 6) sc_law_pool.nd rfl (Or.inl rfl) (pe_ix ix_list (pv 2) (pe_cx c_law_take hr (by decide) rfl pass0 (pa_cons (pv 0) (pa_cons pe_int pa_nil))) (fun _ _ => rfl)))
    (pss_cons (ps_set (i := 7) sc_law_pool.nd rfl (Or.inl rfl) (pe_cx c_law_take hr (by decide) rfl pass0 (pa_cons (pv 0) (pa_cons pe_int pa_nil))))
    (pss_one (ps_if (pt_cmpR op_eq (pv 7) pe_int (nomark _))
    (pss_one (ps_expr (pe_bm PySem.F.plainAttrs_list PySem.F.slot_list_append PySem.F.type_list_append mt_append (pv 3) (pa_cons (pe_tup (pa_cons pe_str (pa_cons (pv 5) (pa_cons (pv 6) pa_nil)))) pa_nil))))
    (pss_one (ps_if (pt_cmpR op_eq (pv 7) pe_int (nomark _))
    (pss_one (ps_expr (pe_bm PySem.F.plainAttrs_list PySem.F.slot_list_append PySem.F.type_list_append mt_append (pv 3) (pa_cons (pe_tup (pa_cons pe_str (pa_cons (pe_tup (pa_cons pe_str (pa_cons (pv 5) (pa_cons (pv 6) pa_nil)))) (pa_cons (pv 5) pa_nil)))) pa_nil))))
    (pss_one (ps_if (pt_cmpR op_eq (pv 7) pe_int (nomark _))
    (pss_one (ps_expr (pe_bm PySem.F.plainAttrs_list PySem.F.slot_list_append PySem.F.type_list_append mt_append (pv 3) (pa_cons (pe_tup (pa_cons pe_str (pa_cons (pv 5) (pa_cons (pe_tup (pa_cons pe_str (pa_cons (pv 6) (pa_cons (pv 5) pa_nil)))) pa_nil)))) pa_nil))))
    (pss_one (ps_expr (pe_bm PySem.F.plainAttrs_list PySem.F.slot_list_append PySem.F.type_list_append mt_append (pv 3) (pa_cons (pv 5) pa_nil))))))))))))))
    (pss_one (ps_ret (pv 3))))))), ?_⟩
  rw [show start ["pot", "words", "leaves", "pool", "k", "one", "other", "way"] [x0, x1] = [some x0, some x1, none, none, none, none, none, none] from rfl]
  have ec0 : Str.ofString "named" = S [110,97,109,101,100] := S_ofs (by decide +kernel)
  have ec1 : Str.ofString "free" = S [102,114,101,101] := S_ofs (by decide +kernel)
  have ec2 : Str.ofString "bool" = S [98,111,111,108] := S_ofs (by decide +kernel)
  have ec3 : Str.ofString "to" = S [116,111] := S_ofs (by decide +kernel)
  rw [ec0, ec1, ec2, ec3]
  obtain ⟨a, p, rfl, rfl, hP, hW, hQ⟩ := h
  try dsimp only [cxOf]
  walk_at "w"
  refine hW.ix (i := 0) (by omega) (fun w0 n0 => ?_)
  walk_at "w"
  refine t_new (ds := [.str (S wNAMED), .str (S w0)]) (.cons (.str _) (.cons (.str _) .nil)) (fun p1 H1 hp1 s1 t1 => ?_)
  walk_at "w"
  refine (hW.same s1).ix (i := 0) (by omega) (fun w1 n1 => ?_)
  walk_at "w"
  refine t_new (ds := [.str (S wFREE), .str (S w1)]) (.cons (.str _) (.cons (.str _) .nil)) (fun p2 H2 hp2 s2 t2 => ?_)
  walk_at "w"
  refine (hW.same (s1.tr s2)).ix (i := 1) (by omega) (fun w2 n2 => ?_)
  walk_at "w"
  refine t_new (ds := [.str (S wNAMED), .str (S w2)]) (.cons (.str _) (.cons (.str _) .nil)) (fun p3 H3 hp3 s3 t3 => ?_)
  walk_at "w"
  refine (hW.same ((s1.tr s2).tr s3)).ix (i := 2) (by omega) (fun w3 n3 => ?_)
  walk_at "w"
  refine t_new (ds := [.str (S wFREE), .str (S w3)]) (.cons (.str _) (.cons (.str _) .nil)) (fun p4 H4 hp4 s4 t4 => ?_)
  walk_at "w"
  refine l_new (ds := [Kd.nm w0, Kd.fr w1, Kd.nm w2, Kd.fr w3].map Kd.d) (.cons (t1.tm (Tm.same ((s2.tr s3).tr s4))) (.cons (t2.tm (Tm.same (s3.tr s4))) (.cons (t3.tm (Tm.same s4)) (.cons t4 .nil)))) (fun l5 H5 hl5 s5 d5 => ?_)
  walk_at "w"
  have L5 : KL H5 l5 4 1 := ⟨_, d5, rfl, fun k hk => by
    simp only [List.mem_cons, List.not_mem_nil, or_false] at hk
    rcases hk with rfl | rfl | rfl | rfl
    · exact ⟨.inl n0, Nat.le_refl _⟩
    · exact ⟨n1, Nat.le_refl _⟩
    · exact ⟨.inl n2, Nat.le_refl _⟩
    · exact ⟨n3, Nat.le_refl _⟩⟩
  have s05 := (((s1.tr s2).tr s3).tr s4).tr s5
  refine L5.ty ?_
  walk_at "w"
  refine t_new (ds := [.str (S wNAMED), .str (S wBOOL)]) (.cons (.str _) (.cons (.str _) .nil)) (fun p6 H6 hp6 s6 t6 => ?_)
  walk_at "w"
  refine (L5.same s6).app (k := .nm wBOOL) t6 ⟨.inr rfl, Nat.le_refl _⟩ (by omega) (fun H7 L7 x7 => ?_)
  walk_at "w"
  have fr : ∀ {q : Addr} {Ha Hb : Hp}, Same Ha Hb → Hb q = none → Ha q = none := fun {q Ha Hb} s z => by
    cases e : Ha q with
    | none => rfl
    | some o => rw [s q o e] at z; cases z
  have hl0 : H l5 = none := fr (((s1.tr s2).tr s3).tr s4) hl5
  have s07 := (s05.tr s6).ex hl0 x7
  have P7 := hP.same s07
  have k07 : Kb a H H7 := Kb.same s07
  refine ⟨_, _, rfl, a, 5, rfl, rfl, by omega, by omega, P7, fun v8 H8 hv8 P8 k8 => ?_⟩
  walk_at "w"
  have hla : l5 ≠ a := L7.ne P7 (by omega)
  have L8 := L7.kb P7 k8 hla
  refine L8.ix hv8 (fun x9 kd9 ok9 sz9 t9 => ?_)
  walk_at "w"
  refine l_new (ds := [kd9].map Kd.d) (.cons t9 .nil) (fun q H9 hq s9 d9 => ?_)
  walk_at "w"
  have q0 : H q = none := Kb.none (k07.tr k8) P8 hq
  have hql : l5 ≠ q := fun z => by obtain ⟨_, e⟩ := L8.lst; rw [z, hq] at e; cases e
  have K9 : KL H9 q 1 5 := ⟨[kd9], d9, rfl, fun k hk => by rw [List.mem_singleton.mp hk]; exact ⟨ok9, by omega⟩⟩
  refine w_rg1 (by omega) (by omega) ?_
  refine for_range (fun i σ H' => ∃ (v4 v5 v6 v7 : Option V), σ = [some (.ref a), some (.ref p), some (.ref l5), some (.ref q), v4, v5, v6, v7] ∧ KL H' l5 5 1 ∧ KL H' q (i + 1) 5 ∧ Pot a H' ∧ Kb a H H')
    ⟨_, _, _, _, rfl, L8.same s9, K9, P8.same s9, (k07.tr k8).then s9⟩ ?_ ?_
  · rintro i σ G hi ⟨v4, v5, v6, v7, rfl, L, Kq, P0, k0⟩
    have hi : i < 3 := hi
    dsimp only [gName]
    walk_at "w"
    refine ⟨_, _, rfl, a, 5, rfl, rfl, by omega, by omega, P0, fun va1 Ha1 hva1 Pa1 ka1 => ?_⟩
    walk_at "w"
    have La := L.kb P0 ka1 (L.ne P0 (by omega))
    have Ka := Kq.kb P0 ka1 (Kq.ne P0 (by omega))
    refine La.ix hva1 (fun xo ko oko szo to => ?_)
    walk_at "w"
    refine ⟨_, _, rfl, a, 5, rfl, rfl, by omega, by omega, Pa1, fun va2 Ha2 hva2 Pa2 ka2 => ?_⟩
    walk_at "w"
    have Lb := La.kb Pa1 ka2 (L.ne P0 (by omega))
    have Kb2 := Ka.kb Pa1 ka2 (Kq.ne P0 (by omega))
    have to2 := to.tm (Kb.pot_tm Pa1 ka2)
    refine Lb.ix hva2 (fun xh kh okh szh th => ?_)
    walk_at "w"
    refine ⟨_, _, rfl, a, 4, rfl, rfl, by omega, by omega, Pa2, fun va3 Ha3 hva3 Pa3 ka3 => ?_⟩
    walk_at "w"
    have Lc := Lb.kb Pa2 ka3 (L.ne P0 (by omega))
    have Kc := Kb2.kb Pa2 ka3 (Kq.ne P0 (by omega))
    have to3 := to2.tm (Kb.pot_tm Pa2 ka3)
    have th3 := th.tm (Kb.pot_tm Pa2 ka3)
    have k3 := ((k0.tr ka1).tr ka2).tr ka3
    have hqa : q ≠ a := Kc.ne Pa3 (by omega)
    have put : ∀ {G' : Hp} {v : V} {k : Kd} {Q : VK}, Same Ha3 G' → TD G' v k.d → k.ok → k.sz ≤ 5 → (∀ H', KL H' l5 5 1 → KL H' q (i + 1 + 1) 5 → Pot a H' → Kb a H H' → Q .non H') → rAppend (.ref q) [v] G' Q := fun {G' v k Q} s tv h1 h2 hc => by
      refine (Kc.same s).app tv ⟨h1, h2⟩ (by omega) (fun H' K' x' => ?_)
      obtain ⟨_, ql⟩ := (Kc.same s).lst
      exact hc H' ((Lc.same s).ex x' hql ql) K' ((Pa3.same s).ex x' hqa.symm) ((k3.then s).ex q0 x')
    by_cases h0 : (va3 : Int) = 0
    · rw [decide_eq_true h0]
      walk_at "w"
      refine Kc.ty ?_
      walk_at "w"
      refine t_new (ds := [.str (S wTO), ko.d, kh.d]) (.cons (.str _) (.cons to3 (.cons th3 .nil))) (fun pt G1 hpt st tt => ?_)
      walk_at "w"
      refine put (k := .to ko kh) st tt ⟨oko, okh⟩ (by show ko.sz + kh.sz + 1 ≤ 5; omega) (fun H' a1 a2 a3 a4 => ?_)
      walk_at "w"
      exact ⟨_, _, _, _, rfl, a1, a2, a3, a4⟩
    rw [decide_eq_false h0]
    walk_at "w"
    by_cases h1 : (va3 : Int) = 1
    · rw [decide_eq_true h1]
      walk_at "w"
      refine Kc.ty ?_
      walk_at "w"
      refine t_new (ds := [.str (S wTO), ko.d, kh.d]) (.cons (.str _) (.cons to3 (.cons th3 .nil))) (fun pt G1 hpt st tt => ?_)
      walk_at "w"
      refine t_new (ds := [.str (S wTO), (Kd.to ko kh).d, ko.d]) (.cons (.str _) (.cons tt (.cons (to3.tm (Tm.same st)) .nil))) (fun pt2 G2 hpt2 st2 tt2 => ?_)
      walk_at "w"
      refine put (k := .to (.to ko kh) ko) (st.tr st2) tt2 ⟨⟨oko, okh⟩, oko⟩ (by show ko.sz + kh.sz + 1 + ko.sz + 1 ≤ 5; omega) (fun H' a1 a2 a3 a4 => ?_)
      walk_at "w"
      exact ⟨_, _, _, _, rfl, a1, a2, a3, a4⟩
    rw [decide_eq_false h1]
    walk_at "w"
    by_cases h2 : (va3 : Int) = 2
    · rw [decide_eq_true h2]
      walk_at "w"
      refine Kc.ty ?_
      walk_at "w"
      refine t_new (ds := [.str (S wTO), kh.d, ko.d]) (.cons (.str _) (.cons th3 (.cons to3 .nil))) (fun pt G1 hpt st tt => ?_)
      walk_at "w"
      refine t_new (ds := [.str (S wTO), ko.d, (Kd.to kh ko).d]) (.cons (.str _) (.cons (to3.tm (Tm.same st)) (.cons tt .nil))) (fun pt2 G2 hpt2 st2 tt2 => ?_)
      walk_at "w"
      refine put (k := .to ko (.to kh ko)) (st.tr st2) tt2 ⟨oko, ⟨okh, oko⟩⟩ (by show ko.sz + (kh.sz + ko.sz + 1) + 1 ≤ 5; omega) (fun H' a1 a2 a3 a4 => ?_)
      walk_at "w"
      exact ⟨_, _, _, _, rfl, a1, a2, a3, a4⟩
    rw [decide_eq_false h2]
    walk_at "w"
    refine Kc.ty ?_
    walk_at "w"
    refine put (k := ko) (Same.refl _) to3 oko (by omega) (fun H' a1 a2 a3 a4 => ?_)
    walk_at "w"
    exact ⟨_, _, _, _, rfl, a1, a2, a3, a4⟩
  · rintro σ G ⟨v4, v5, v6, v7, rfl, L, Kq, P0, k0⟩
    walk_at "w"
    exact hQ q G q0 Kq P0 k0
end
end K02

namespace K02
open PySem PySem.Spec PyProof.Rows L2 SX
local macro_rules | `(tactic| walk_at "w1") => `(tactic| (first
  | with_reducible refine w_seq ?_ | with_reducible refine w_asgN ?_ | with_reducible refine w_c ?_
  | ((with_reducible refine' w_var ?wv ?_); (case wv => exact rfl))
  | with_reducible refine w_op ?_ | with_reducible refine w_un ?_ | with_reducible refine w_next ?_ | with_reducible refine w_brk ?_ | with_reducible refine w_cnt ?_
  | with_reducible refine w_ifS ?_ | with_reducible refine w_if ?_ | with_reducible refine w_test ?_ | with_reducible refine w_tB ?_ | with_reducible refine w_bl ?_ | with_reducible refine w_blI ?_
  | with_reducible refine w_and ?_ | with_reducible refine w_or ?_ | with_reducible refine w_not ?_ | with_reducible refine w_andV ?_ | with_reducible refine w_orV ?_ | with_reducible refine w_notV ?_
  | with_reducible refine w_nil ?_ | with_reducible refine w_cons ?_ | with_reducible refine w_cb ?_ | with_reducible refine w_call ?_ | with_reducible refine w_callS ?_ | with_reducible refine w_chain ?_
  | with_reducible refine w_tupN ?_ | with_reducible refine w_lstN ?_ | with_reducible refine w_sl ?_ | with_reducible refine w_noPart ?_ | with_reducible refine w_part ?_ | with_reducible refine w_partI ?_
  | with_reducible refine w_ret ?_ | with_reducible refine w_retN ?_ | with_reducible refine w_drop ?_ | with_reducible refine w_asg ?_ | with_reducible refine w_gSub ?_
  | ((with_reducible refine' w_aug ?wv ?_); (case wv => exact rfl)) | with_reducible refine w_ipI ?_
  | with_reducible refine w_addI ?_ | with_reducible refine w_subI ?_ | with_reducible refine w_ltI ?_ | with_reducible refine w_leI ?_ | with_reducible refine w_gtI ?_ | with_reducible refine w_geI ?_
  | with_reducible refine w_eqI ?_ | with_reducible refine w_neI ?_ | with_reducible refine w_eqT ?_ | with_reducible refine w_neT ?_ | with_reducible refine w_inS ?_ | with_reducible refine w_ninS ?_
  | with_reducible refine w_absI ?_ | with_reducible refine w_intI ?_ | with_reducible refine w_maxI ?_ | with_reducible refine w_minI ?_
  | with_reducible refine w_for ?_ | with_reducible refine w_iR1 ?_ | with_reducible refine w_iR2 ?_ | with_reducible refine w_iStr ?_ | with_reducible refine w_strI ?_ | with_reducible refine w_iList ?_ | with_reducible refine w_iTup ?_
  | with_reducible refine w_bm ?_ | with_reducible refine w_bm0 ?_ | with_reducible refine w_t ?_ | with_reducible refine w_f ?_ | with_reducible refine w_nt ?_ | with_reducible refine w_nx ?_ | with_reducible refine w_rt ?_ | with_reducible refine w_bk ?_ | with_reducible refine w_ct ?_ | with_reducible refine w_nf ?_ | with_reducible refine w_lc ?_ | with_reducible refine w_yes ?_ | with_reducible refine w_neg ?_ | with_reducible refine w_intB ?_ | with_reducible refine w_fld ?_ | with_reducible refine w_setf ?_ | with_reducible refine w_faug ?_ | with_reducible refine w_meth ?_ | with_reducible refine w_bmS ?_ | with_reducible refine w_start ?_ | with_reducible refine w_revL ?_ | with_reducible refine w_iR3 ?_))
local macro_rules | `(tactic| walk_at "w") => `(tactic| (repeat (first | walk_at "w1" | dsimp (config := { proj := false }) only [List.set_cons_zero, List.set_cons_succ])))
section
variable {w : World} {K : PySem.W.Frag} {mg : Str → Option Value} {base : Heap}

def sp_law_tip : Sp := sp4 fun x y z u H Q _ => ∃ (a p : Addr) (k : Kd) (ar : List Kd), x = .ref a ∧ u = .ref p ∧ Pot a H ∧ NmL H p ∧ TD H y k.d ∧ TD H z (arD ar) ∧ GK k ∧ (∀ x ∈ ar, GK x) ∧ ar.length ≤ 1000 ∧
  ∀ v H' (l : Lf), l.ok → (∀ i, l = .bnd i → i < ar.length) → TD H' v l.d → Pot a H' → Kb a H H' → Q v H'
theorem GK.sz180 {k : Kd} (h : GK k) : Sz 180 k.d := Kd.Sz h.1 (by have := k.ht_sz; have := h.2; omega)
theorem ok_law_tip (T : Txt w K mg) {fd : FuncData} (F : Fn_law_tip K fd) (hm : mg "_law_tip" = some (.ref (He.ga K "_law_tip"))) (c_law_take : CalX P w K mg base CX0 1 "_law_take" sp_law_take) : CalX P w K mg base CX0 2 "_law_tip" sp_law_tip := by
  refine calx0 (k := 1) F hm sc_law_tip (b_law_tip F) (fun _ _ _ _ h => sp4_len h) (fun cdv A outer s H vs Q E hr h => ?_)
  obtain ⟨x0, x1, x2, x3, rfl, h⟩ := h
  refine ⟨_, (pss_cons (ps_setLc (i := 4) (own := [("k", 6)]) (g := gName 6) (by rfl) sc_law_tip.nd rfl rfl (sw_true rfl rfl rfl (by decide +kernel)) (pi_range1 (by rfl) T.f_range (pa_cons (pe_callB call_lenQ (by rfl) T.f_len PySem.boot_len (pa_cons (pv 2) pa_nil)) pa_nil)) (blkOk_by (own := [("k", 6)]) (N := ["pot", "kind", "around", "words", "fits", "way", "k"]) (sc := defScope s_law_tip) (by decide +kernel)) (fun _ _ _ _ _ => pg_name (i := 6) sc_law_tip.nd rfl (Or.inl rfl)) (fun _ _ _ _ _ => (pts_one (pt_cmpR (r := rEqN K) (op_eqN hr) (pe_ix (r := rIxT K) ix_tup (pv 2) (pv 6) (fun _ _ => rfl)) (pv 1) (nomark _)))) (fun _ _ _ _ _ => (pv 6)))
    (pss_cons (ps_set (i := 5) sc_law_tip.nd rfl (Or.inl rfl) (pe_cx c_law_take hr (by decide) rfl pass0 (pa_cons (pv 0) (pa_cons pe_int pa_nil))))
    (pss_cons (ps_if (PW.pt (pw_and (pt_cmpR op_ltI (pv 5) pe_int (nomark _)) (pw_and1 (pt_truth (pv 4) (by intro _; rfl)))))
    (pss_one (ps_ret (pe_tup (pa_cons pe_str (pa_cons (pe_ix ix_list (pv 4) (pe_cx c_law_take hr (by decide) rfl pass0 (pa_cons (pv 0) (pa_cons (pe_callB call_lenQ (by rfl) T.f_len PySem.boot_len (pa_cons (pv 4) pa_nil)) pa_nil))) (fun _ _ => rfl)) pa_nil)))))
    pss_nil)
    (pss_cons (ps_if (pt_cmpR op_eq (pv 5) pe_int (nomark _))
    (pss_one (ps_ret (pe_tup (pa_cons pe_str (pa_cons (pe_ix ix_list (pv 3) (pe_cx c_law_take hr (by decide) rfl pass0 (pa_cons (pv 0) (pa_cons pe_int pa_nil))) (fun _ _ => rfl)) (pa_cons (pv 1) pa_nil))))))
    pss_nil)
    (pss_one (ps_ret (pe_tup (pa_cons pe_str (pa_cons (pe_ix ix_list (pv 3) (pe_cx c_law_take hr (by decide) rfl pass0 (pa_cons (pv 0) (pa_cons pe_int pa_nil))) (fun _ _ => rfl)) (pa_cons (pv 1) pa_nil)))))))))), ?_⟩
  rw [show start ["pot", "kind", "around", "words", "fits", "way", "k"] [x0, x1, x2, x3] = [some x0, some x1, some x2, some x3, none, none, none] from rfl]
  have ec0 : Str.ofString "var" = S [118,97,114] := S_ofs (by decide +kernel)
  have ec1 : Str.ofString "bound" = S [98,111,117,110,100] := S_ofs (by decide +kernel)
  have ec2 : Str.ofString "const" = S [99,111,110,115,116] := S_ofs (by decide +kernel)
  rw [ec0, ec1, ec2]
  obtain ⟨a, p, k, ar, rfl, rfl, hP, hW, hk, hz, hg, har, hl, hQ⟩ := h
  try dsimp only [cxOf]
  walk_at "w"
  refine t_len hz ?_
  rw [List.length_map]
  walk_at "w"
  refine w_rg1 (by omega) (by omega) ?_
  intro D hD
  refine lc_range (fun i H' => Same H H' ∧ ∃ js : List Nat, DL H' D (js.map fun (n : Nat) => PyData.int (n : Int)) ∧ js.length ≤ i ∧ ∀ j ∈ js, j < ar.length) ⟨same_upd hD, [], ⟨[], upd_same, .nil⟩, Nat.zero_le _, fun j hj => by cases hj⟩ ?_ ?_
  · rintro i H' hi ⟨sm, js, dj, hjl, hj⟩
    have hi : i < ar.length := hi
    dsimp only [gName]
    refine ⟨rfl, ?_⟩
    walk_at "w"
    rw [show (0 : Int) + (i : Int) = (i : Int) by omega]
    refine t_ix (hz.tm (Tm.same sm)) (show (ar.map Kd.d)[i]? = some ar[i].d by rw [List.getElem?_map, List.getElem?_eq_getElem hi]; rfl) (fun x tx => ?_)
    walk_at "w"
    refine d_eq tx (hk.tm (Tm.same sm)) (har _ (List.getElem_mem hi)).sz180 hg.sz180 ?_
    walk_at "w"
    refine w_b (fun _ => ?_) (fun _ => ?_)
    · walk_at "w"
      obtain ⟨xs, e, t⟩ := dj
      have lx := t.len
      rw [List.length_map] at lx
      have ex : Ex D H' (upd H' D (.lst (xs ++ [.int (i : Int)]))) := fun b hb => upd_ne hb
      refine ⟨_, e, szl (show _ ≤ 100000 by omega), ⟨sm.ex hD ex, js ++ [i], ⟨_, upd_same, ?_⟩, by rw [List.length_append]; show js.length + 1 ≤ i + 1; omega, fun j hj' => ?_⟩⟩
      · rw [List.map_append]
        exact (t.tm (Tm.ex e ex)).snoc (.int _)
      · rcases List.mem_append.mp hj' with hj' | hj'
        · exact hj j hj'
        · rw [List.mem_singleton.mp hj']; exact hi
    · exact ⟨sm, js, dj, by omega, hj⟩
  rintro H1 ⟨sm, js, dj, hjl, hj⟩
  walk_at "w"
  have P1 := hP.same sm
  refine ⟨_, _, rfl, a, 4, rfl, rfl, by omega, by omega, P1, fun v2 H2 hv2 P2 k2 => ?_⟩
  walk_at "w"
  have hDa : D ≠ a := hP.ne hD
  have dj2 := DLkb dj P1 k2 hDa
  have kx := (Kb.same (a := a) sm).tr k2
  have hk2 := hk.tm ((Tm.same sm).tr (Kb.pot_tm P1 k2))
  have hpa : p ≠ a := hW.ne hP
  have hW2 := (hW.same sm).kb P1 k2 hpa
  have last : ∀ {H3 : Hp} (s : List Nat), Pot a H3 → Kb a H H3 → TD H3 x1 k.d → (s = wVAR ∨ s = wCONST) → ∀ w4, isName w4 = true → NewT [.str (S s), .str (S w4), x1] H3 Q := fun {H3} s P3 k3 tk3 hs w4 n4 => by
    refine t_new (ds := [.str (S s), .str (S w4), k.d]) (.cons (.str _) (.cons (.str _) (.cons tk3 .nil))) (fun p5 H5 hp5 s5 t5 => ?_)
    rcases hs with rfl | rfl
    · exact hQ _ H5 (.var w4 k) ⟨n4, hg⟩ (fun i z => by cases z) t5 (P3.same s5) (k3.then s5)
    · exact hQ _ H5 (.cst w4 k) ⟨.inl n4, hg⟩ (fun i z => by cases z) t5 (P3.same s5) (k3.then s5)
  by_cases h1 : (v2 : Int) < 2
  · rw [decide_eq_true h1]
    walk_at "w"
    refine l_truth dj2 ?_
    rw [show decide ((js.map fun (n : Nat) => PyData.int (n : Int)) ≠ []) = decide (js ≠ []) from map_ne]
    by_cases h2 : js = []
    · rw [decide_eq_false (by simp [h2])]
      walk_at "w"
      rw [decide_eq_false (show ¬ (v2 : Int) = 2 by omega)]
      walk_at "w"
      refine ⟨_, _, rfl, a, 4, rfl, rfl, by omega, by omega, P2, fun v4 H4 hv4 P4 k4 => ?_⟩
      refine (hW2.kb P2 k4 hpa).ix hv4 (fun w4 n4 => ?_)
      walk_at "w"
      exact last wVAR P4 (kx.tr k4) (hk2.tm (Kb.pot_tm P2 k4)) (.inl rfl) w4 n4
    · rw [decide_eq_true h2]
      walk_at "w"
      refine l_len dj2 ?_
      rw [List.length_map]
      walk_at "w"
      have hjp : 0 < js.length := by
        cases js with
        | nil => exact absurd rfl h2
        | cons _ _ => exact Nat.succ_pos _
      refine ⟨_, _, rfl, a, js.length, rfl, rfl, hjp, by omega, P2, fun v4 H4 hv4 P4 k4 => ?_⟩
      refine l_ix (DLkb dj2 P2 k4 hDa) (show (js.map fun (n : Nat) => PyData.int (n : Int))[v4]? = some (.int (js[v4] : Int)) by rw [List.getElem?_map, List.getElem?_eq_getElem hv4]; rfl) (fun x tx => ?_)
      rw [tx.num]
      walk_at "w"
      refine t_new (ds := [.str (S wBOUND), .int (js[v4] : Int)]) (.cons (.str _) (.cons (.int _) .nil)) (fun p5 H5 hp5 s5 t5 => ?_)
      exact hQ _ H5 (.bnd js[v4]) trivial (fun i z => by cases z; exact hj _ (List.getElem_mem hv4)) t5 (P4.same s5) ((kx.tr k4).then s5)
  rw [decide_eq_false h1]
  walk_at "w"
  by_cases h2 : (v2 : Int) = 2
  · rw [decide_eq_true h2]
    walk_at "w"
    refine ⟨_, _, rfl, a, 4, rfl, rfl, by omega, by omega, P2, fun v4 H4 hv4 P4 k4 => ?_⟩
    refine (hW2.kb P2 k4 hpa).ix hv4 (fun w4 n4 => ?_)
    walk_at "w"
    exact last wCONST P4 (kx.tr k4) (hk2.tm (Kb.pot_tm P2 k4)) (.inr rfl) w4 n4
  · rw [decide_eq_false h2]
    walk_at "w"
    refine ⟨_, _, rfl, a, 4, rfl, rfl, by omega, by omega, P2, fun v4 H4 hv4 P4 k4 => ?_⟩
    refine (hW2.kb P2 k4 hpa).ix hv4 (fun w4 n4 => ?_)
    walk_at "w"
    exact last wVAR P4 (kx.tr k4) (hk2.tm (Kb.pot_tm P2 k4)) (.inl rfl) w4 n4
end
end K02

namespace K02
open PySem PySem.Spec PyProof.Rows L2 SX
local macro_rules | `(tactic| walk_at "w1") => `(tactic| (first
  | with_reducible refine w_seq ?_ | with_reducible refine w_asgN ?_ | with_reducible refine w_c ?_
  | ((with_reducible refine' w_var ?wv ?_); (case wv => exact rfl))
  | with_reducible refine w_op ?_ | with_reducible refine w_un ?_ | with_reducible refine w_next ?_ | with_reducible refine w_brk ?_ | with_reducible refine w_cnt ?_
  | with_reducible refine w_ifS ?_ | with_reducible refine w_if ?_ | with_reducible refine w_test ?_ | with_reducible refine w_tB ?_ | with_reducible refine w_bl ?_ | with_reducible refine w_blI ?_
  | with_reducible refine w_and ?_ | with_reducible refine w_or ?_ | with_reducible refine w_not ?_ | with_reducible refine w_andV ?_ | with_reducible refine w_orV ?_ | with_reducible refine w_notV ?_
  | with_reducible refine w_nil ?_ | with_reducible refine w_cons ?_ | with_reducible refine w_cb ?_ | with_reducible refine w_call ?_ | with_reducible refine w_callS ?_ | with_reducible refine w_chain ?_
  | with_reducible refine w_tupN ?_ | with_reducible refine w_lstN ?_ | with_reducible refine w_sl ?_ | with_reducible refine w_noPart ?_ | with_reducible refine w_part ?_ | with_reducible refine w_partI ?_
  | with_reducible refine w_ret ?_ | with_reducible refine w_retN ?_ | with_reducible refine w_drop ?_ | with_reducible refine w_asg ?_ | with_reducible refine w_gSub ?_
  | ((with_reducible refine' w_aug ?wv ?_); (case wv => exact rfl)) | with_reducible refine w_ipI ?_
  | with_reducible refine w_addI ?_ | with_reducible refine w_subI ?_ | with_reducible refine w_ltI ?_ | with_reducible refine w_leI ?_ | with_reducible refine w_gtI ?_ | with_reducible refine w_geI ?_
  | with_reducible refine w_eqI ?_ | with_reducible refine w_neI ?_ | with_reducible refine w_eqT ?_ | with_reducible refine w_neT ?_ | with_reducible refine w_inS ?_ | with_reducible refine w_ninS ?_
  | with_reducible refine w_absI ?_ | with_reducible refine w_intI ?_ | with_reducible refine w_maxI ?_ | with_reducible refine w_minI ?_
  | with_reducible refine w_for ?_ | with_reducible refine w_iR1 ?_ | with_reducible refine w_iR2 ?_ | with_reducible refine w_iStr ?_ | with_reducible refine w_strI ?_ | with_reducible refine w_iList ?_ | with_reducible refine w_iTup ?_
  | with_reducible refine w_bm ?_ | with_reducible refine w_bm0 ?_ | with_reducible refine w_t ?_ | with_reducible refine w_f ?_ | with_reducible refine w_nt ?_ | with_reducible refine w_nx ?_ | with_reducible refine w_rt ?_ | with_reducible refine w_bk ?_ | with_reducible refine w_ct ?_ | with_reducible refine w_nf ?_ | with_reducible refine w_lc ?_ | with_reducible refine w_yes ?_ | with_reducible refine w_neg ?_ | with_reducible refine w_intB ?_ | with_reducible refine w_fld ?_ | with_reducible refine w_setf ?_ | with_reducible refine w_faug ?_ | with_reducible refine w_meth ?_ | with_reducible refine w_bmS ?_ | with_reducible refine w_start ?_ | with_reducible refine w_revL ?_ | with_reducible refine w_iR3 ?_))
local macro_rules | `(tactic| walk_at "w") => `(tactic| (repeat (first | walk_at "w1" | dsimp (config := { proj := false }) only [List.set_cons_zero, List.set_cons_succ])))
section
variable {w : World} {K : PySem.W.Frag} {mg : Str → Option Value} {base : Heap}

/-- a prefix that wants n trees -/
def PV (c : List G2) (n : Nat) : Prop := ∀ c2, Vc c2 n → Vc (c ++ c2) 1
theorem PV.nil : PV [] 1 := fun c2 h => h
theorem PV.add {c : List G2} {n : Nat} {r : G2} (h : PV c (n + 1)) : PV (c ++ [r]) (n + r.ar) := fun c2 h2 => by
  rw [List.append_assoc]
  exact h _ (Vc.cons h2)
theorem PV.add' {c : List G2} {n : Nat} {r : G2} (h : PV c (n + 1)) (z : r.ar = 0) : PV (c ++ [r]) n := by have := h.add (r := r); rwa [z, Nat.add_zero] at this
theorem PV.done {c : List G2} (h : PV c 0) : Vc c 1 := by have := h [] Vc.nil; rwa [List.append_nil] at this
/-- rows with a kind -/
def Wr : G2 → Prop
  | .lam _ => True
  | .tip (.var _ _) => True
  | .tip (.cst _ _) => True
  | _ => False
abbrev E3 := Kd × List Kd × Nat
def e3 (e : E3) : PyData := .tuple [e.1.d, arD e.2.1, .int (e.2.2 : Int)]
def WI (c : List G2) (es : List E3) : Prop := (∃ r ∈ c, Wr r) ∨ ((∀ r ∈ c, r = .app) ∧ ∀ e ∈ es, e.2.1 = [])
theorem apps_no {c : List G2} (h : ∀ r ∈ c, r = .app) (hv : Vc c 1) : False := by
  have : ∀ (c : List G2), (∀ r ∈ c, r = .app) → fok c → c = [] := by
    intro c
    induction c with
    | nil => intro _ _; rfl
    | cons r c ih =>
      intro h hf
      have e := ih (fun r hr => h r (List.mem_cons_of_mem _ hr)) hf.2
      subst e
      rw [h r List.mem_cons_self] at hf
      exact absurd hf.1 (by show ¬ 2 ≤ 0; omega)
  have e := this c h hv.1
  subst e
  cases hv.2
theorem WI.done {c : List G2} {es : List E3} (h : WI c es) (hv : Vc c 1) : ∃ r ∈ c, Wr r := h.elim id fun z => (apps_no z.1 hv).elim
theorem kds_any (ks : List Kd) (k : Kd) : ((ks.map Kd.d).any fun z => PyData.eqv z k.d) = decide (k ∈ ks) := by
  rw [List.any_map]
  have e : ((fun z => PyData.eqv z k.d) ∘ Kd.d) = fun v => decide (v = k) := by funext v; exact Kd.eqv v k
  rw [e]
  by_cases h : k ∈ ks
  · rw [decide_eq_true h]; exact List.any_eq_true.mpr ⟨k, h, decide_eq_true rfl⟩
  · rw [decide_eq_false h]; exact List.any_eq_false.mpr fun v hv => by simp; intro z; subst z; exact h hv
theorem kds_lay : ∀ {ks : List Kd}, (∀ k ∈ ks, k.ok ∧ k.ht ≤ 100) → PyData.canLayAll0 (ks.map Kd.d) = true ∧ PyData.depthAll (ks.map Kd.d) ≤ 100
  | [], _ => ⟨rfl, Nat.zero_le _⟩
  | k :: ks, h => by
    obtain ⟨a, b⟩ := kds_lay fun k' hk' => h k' (List.mem_cons_of_mem _ hk')
    have hk := h k List.mem_cons_self
    refine ⟨by simp only [List.map_cons, PyData.canLayAll0, k.lay hk.1, a, Bool.and_self], ?_⟩
    simp only [List.map_cons, PyData.depthAll]
    rw [k.depth]
    omega
theorem KL.sz {n m : Nat} {ks : List Kd} (h : ∀ k ∈ ks, k.ok ∧ k.sz ≤ m) (hm : m ≤ 100) : Sz 180 (.list (ks.map Kd.d)) := by
  obtain ⟨a, b⟩ := kds_lay (ks := ks) fun k hk => ⟨(h k hk).1, by have := k.ht_sz; have := (h k hk).2; omega⟩
  refine ⟨by simp only [PyData.canLay0]; exact a, ?_⟩
  simp only [PyData.depth]; omega
theorem gd_snoc (c : List G2) (r : G2) : gd (c ++ [r]) = gd c ++ [(upR r).d] := by unfold gd cd; rw [List.map_append, List.map_append]; rfl
theorem gd_ne_int {c : List G2} (i : Int) : (gd c)[0]? ≠ some (.int i) := fun z => by
  cases c with
  | nil => cases z
  | cons r c =>
    obtain ⟨rest, e⟩ := gw_d r
    have z : (upR r).d = .int i := Option.some.inj z
    rw [e] at z; cases z
theorem e3_ne_int {es : List E3} (i : Int) : (es.map e3)[0]? ≠ some (.int i) := fun z => by cases es <;> cases z
def EOk (i : Nat) (e : E3) : Prop := e.1.ok ∧ e.1.sz ≤ 5 + 6 * e.2.2 ∧ e.2.2 ≤ 8 ∧ (∀ x ∈ e.2.1, x.ok ∧ x.sz ≤ 53) ∧ e.2.1.length ≤ i
def kw : Kd → List Nat
  | .nm _ => wNAMED
  | .fr _ => wFREE
  | .to _ _ => wTO
theorem kw_d (k : Kd) : ∃ rest, k.d = .tuple (.str (S (kw k)) :: rest) := by cases k <;> exact ⟨_, rfl⟩
theorem kw_to {k : Kd} (h : kw k = wTO) : ∃ a b, k = .to a b := by
  cases k with
  | to a b => exact ⟨a, b, rfl⟩
  | nm w => exact absurd (show wNAMED = wTO from h) (by decide)
  | fr w => exact absurd (show wFREE = wTO from h) (by decide)
def sp_law_grown : Sp := sp5 fun x y z u v H Q _ => ∃ (a p q : Addr) (k : Kd) (m : Nat), x = .ref a ∧ TD H y k.d ∧ z = .ref p ∧ u = .ref q ∧ v = .int (m : Int) ∧ Pot a H ∧ NmL H p ∧ PoL H q ∧ k.ok ∧ k.sz ≤ 13 ∧ m ≤ 50 ∧
  ∀ r H' (c : List G2), H r = none → DL H' r (gd c) → Vc c 1 → (∀ r ∈ c, r.gok) → (∃ r ∈ c, Wr r) → c.length ≤ 101 → Pot a H' → Kb a H H' → Q (.ref r) H'
theorem ite_els {b : Bool} {X Z : Prop} (hz : Z) (hx : Z → b = true → X) : if b = true then X else Z := by
  cases b with
  | true => rw [if_pos rfl]; exact hx hz rfl
  | false => rw [if_neg Bool.false_ne_true]; exact hz
theorem ok_law_grown (T : Txt w K mg) {fd : FuncData} (F : Fn_law_grown K fd) (hm : mg "_law_grown" = some (.ref (He.ga K "_law_grown"))) (c_law_take : CalX P w K mg base CX0 1 "_law_take" sp_law_take)(c_law_tip : CalX P w K mg base CX0 2 "_law_tip" sp_law_tip) : CalX P w K mg base CX0 3 "_law_grown" sp_law_grown := by
  refine calx0 (k := 2) F hm sc_law_grown (b_law_grown F) (fun _ _ _ _ h => sp5_len h) (fun cdv A outer s H vs Q E hr h => ?_)
  obtain ⟨x0, x1, x2, x3, x4, rfl, h⟩ := h
  refine ⟨_, (pss_cons (ps_set (i := 5) sc_law_grown.nd rfl (Or.inl rfl) (pe_lst pa_nil))
    (pss_cons (ps_set (i := 6) sc_law_grown.nd rfl (Or.inl rfl) pe_int)
    (Evl.pss_cut (ps_if (pt_cmpR (op_notInN hr) (pv 1) (pv 3) rfl)
    (pss_one (ps_set (i := 6) sc_law_grown.nd rfl (Or.inl rfl) pe_int))
    pss_nil)
    (pss_cons (ps_set (i := 7) sc_law_grown.nd rfl (Or.inl rfl) (pe_lst (pa_cons (pe_tup (pa_cons (pv 1) (pa_cons (pe_tup pa_nil) (pa_cons (pv 6) pa_nil)))) pa_nil)))
    (pss_cons (ps_for PassesOwn.never rfl (pi_range1 (by rfl) T.f_range (pa_cons (pe_op op_addI (pe_op op_mulI pe_int (pv 4)) pe_int) pa_nil)) (pg_name (i := 8) sc_law_grown.nd rfl (Or.inl rfl))
    (pss_cons (ps_if (pt_not (pt_truth (pv 7) (by intro _; rfl)))
    (pss_one ps_break)
    pss_nil)
    (pss_cons (ps_asg (pe_bm0 PySem.F.plainAttrs_list PySem.F.slot_list_pop PySem.F.type_list_pop mt_pop (pv 7)) (pg_tup (by rfl) (pgs_cons (pg_name (i := 1) sc_law_grown.nd rfl (Or.inl rfl)) (pgs_cons (pg_name (i := 9) sc_law_grown.nd rfl (Or.inl rfl)) (pgs_cons (pg_name (i := 6) sc_law_grown.nd rfl (Or.inl rfl)) pgs_nil)))))
    (pss_cons (ps_set (i := 10) sc_law_grown.nd rfl (Or.inl rfl) (pe_cx c_law_take hr (by decide) rfl pass0 (pa_cons (pv 0) (pa_cons pe_int pa_nil))))
    (pss_one (ps_if (PW.pt (pw_and (pt_cmpR op_ltI (pv 8) (pv 4) (nomark _)) (pw_and (pt_cmpR op_ltI (pv 10) pe_int (nomark _)) (pw_and (pt_cmpR op_eq (pe_ix ix_tup (pv 1) pe_int (fun _ _ => rfl)) pe_str (nomark _)) (pw_and1 (pt_cmpR op_gtI (pv 10) pe_int (nomark _)))))))
    (pss_cons (ps_expr (pe_bm PySem.F.plainAttrs_list PySem.F.slot_list_append PySem.F.type_list_append mt_append (pv 5) (pa_cons (pe_tup (pa_cons pe_str (pa_cons (pe_ix ix_tup (pv 1) pe_int (fun _ _ => rfl)) pa_nil))) pa_nil)))
    (pss_one (ps_expr (pe_bm PySem.F.plainAttrs_list PySem.F.slot_list_append PySem.F.type_list_append mt_append (pv 7) (pa_cons (pe_tup (pa_cons (pe_ix ix_tup (pv 1) pe_int (fun _ _ => rfl)) (pa_cons (pe_op op_catT (pe_tup (pa_cons (pe_ix ix_tup (pv 1) pe_int (fun _ _ => rfl)) pa_nil)) (pv 9)) (pa_cons (pv 6) pa_nil)))) pa_nil)))))
    (pss_one (ps_if (PW.pt (pw_and (pt_cmpR op_ltI (pv 8) (pv 4) (nomark _)) (pw_and (pt_cmpR op_ltI (pv 10) pe_int (nomark _)) (pw_and1 (pt_cmpR op_ltI (pv 6) pe_int (nomark _))))))
    (pss_cons (ps_set (i := 11) sc_law_grown.nd rfl (Or.inl rfl) (pe_ix ix_list (pv 3) (pe_cx c_law_take hr (by decide) rfl pass0 (pa_cons (pv 0) (pa_cons pe_int pa_nil))) (fun _ _ => rfl)))
    (pss_cons (ps_expr (pe_bm PySem.F.plainAttrs_list PySem.F.slot_list_append PySem.F.type_list_append mt_append (pv 5) (pa_cons (pe_tup (pa_cons pe_str pa_nil)) pa_nil)))
    (pss_cons (ps_expr (pe_bm PySem.F.plainAttrs_list PySem.F.slot_list_append PySem.F.type_list_append mt_append (pv 7) (pa_cons (pe_tup (pa_cons (pv 11) (pa_cons (pv 9) (pa_cons pe_int pa_nil)))) pa_nil)))
    (pss_one (ps_expr (pe_bm PySem.F.plainAttrs_list PySem.F.slot_list_append PySem.F.type_list_append mt_append (pv 7) (pa_cons (pe_tup (pa_cons (pe_tup (pa_cons pe_str (pa_cons (pv 11) (pa_cons (pv 1) pa_nil)))) (pa_cons (pv 9) (pa_cons (pe_op op_addI (pv 6) pe_int) pa_nil)))) pa_nil)))))))
    (pss_one (ps_expr (pe_bm PySem.F.plainAttrs_list PySem.F.slot_list_append PySem.F.type_list_append mt_append (pv 5) (pa_cons (pe_cx c_law_tip hr (by decide) rfl pass0 (pa_cons (pv 0) (pa_cons (pv 1) (pa_cons (pv 9) (pa_cons (pv 2) pa_nil))))) pa_nil))))))))))))
    (pss_one (ps_ret (pv 5)))))))), ?_⟩
  rw [show start ["pot", "kind", "words", "pool", "most", "code", "spent", "todo", "turn", "around", "way", "other"] [x0, x1, x2, x3, x4] = [some x0, some x1, some x2, some x3, some x4, none, none, none, none, none, none, none] from rfl]
  have ec0 : Str.ofString "to" = S [116,111] := S_ofs (by decide +kernel)
  have ec1 : Str.ofString "lam" = S [108,97,109] := S_ofs (by decide +kernel)
  have ec2 : Str.ofString "app" = S [97,112,112] := S_ofs (by decide +kernel)
  rw [ec0, ec1, ec2]
  obtain ⟨a, p, q, k, m, rfl, hk, rfl, rfl, rfl, hP, hW, hL, hko, hks, hm, hQ⟩ := h
  have hpa : p ≠ a := hW.ne hP
  have hqa : q ≠ a := hL.ne hP (by omega)
  try dsimp only [cxOf]
  walk_at "w"
  refine l_new (ds := gd []) .nil (fun r H1 hr1 s1 d1 => ?_)
  walk_at "w"
  refine w_mid (fun σ H' => H' = H1 ∧ ∃ sp : Nat, σ = [some (.ref a), some x1, some (.ref p), some (.ref q), some (.int (m : Int)), some (.ref r), some (.int (sp : Int)), none, none, none, none, none] ∧ k.sz ≤ 5 + 6 * sp ∧ sp ≤ 8) ?_ ?_
  · walk_at "w"
    obtain ⟨ks, hks1, hks2, hks3⟩ := hL.same s1
    refine d_ninL (hk.tm (Tm.same s1)) hks1 (Kd.Sz hko (by have := k.ht_sz; omega)) (KL.sz (n := 0) hks3 (by omega)) ?_
    rw [kds_any]
    walk_at "w"
    refine w_ndec (fun h1 => ?_) (fun h1 => ?_)
    · walk_at "w"
      exact ⟨rfl, 8, rfl, by omega, by omega⟩
    · walk_at "w"
      exact ⟨rfl, 0, rfl, by have := (hks3 k h1).2; omega, by omega⟩
  rintro σ H' ⟨rfl, sp, rfl, hsp, hsp8⟩
  walk_at "w"
  refine t_new .nil (fun p2 H2 hp2 s2 t2 => ?_)
  walk_at "w"
  refine t_new (ds := [k.d, arD [], .int (sp : Int)]) (.cons (hk.tm (Tm.same (s1.tr s2))) (.cons t2 (.cons (.int _) .nil))) (fun p3 H3 hp3 s3 t3 => ?_)
  walk_at "w"
  refine l_new (ds := [(k, ([] : List Kd), sp)].map e3) (.cons t3 .nil) (fun td H4 htd s4 d4 => ?_)
  walk_at "w"
  have fr : ∀ {q : Addr} {Ha Hb : Hp}, Same Ha Hb → Hb q = none → Ha q = none := fun {q Ha Hb} s z => by
    cases e : Ha q with
    | none => rfl
    | some o => rw [s q o e] at z; cases z
  have s13 := (s1.tr s2).tr s3
  have s14 := s13.tr s4
  have htd0 : H td = none := fr s13 htd
  have hra : r ≠ a := hP.ne hr1
  have hta : td ≠ a := hP.ne htd0
  have hrt : r ≠ td := fun z => by
    obtain ⟨_, e⟩ := d1.lst
    rw [z] at e
    rw [(s2.tr s3) _ _ e] at htd; cases htd
  have hrp : p ≠ r := fun z => by
    obtain ⟨_, ⟨_, e, _⟩, _⟩ := hW; rw [z, hr1] at e; cases e
  have hrq : q ≠ r := fun z => by obtain ⟨_, e⟩ := hL.lst; rw [z, hr1] at e; cases e
  have htp : p ≠ td := fun z => by obtain ⟨_, ⟨_, e, _⟩, _⟩ := hW; rw [z, htd0] at e; cases e
  have htq : q ≠ td := fun z => by obtain ⟨_, e⟩ := hL.lst; rw [z, htd0] at e; cases e
  refine w_mulI (.inr (by omega)) ?_
  walk_at "w"
  refine w_rg1 (by omega) (by omega) ?_
  rw [show ((2 : Int) * (m : Int) + 1).toNat = 2 * m + 1 by omega]
  have fin : ∀ {H' : Hp} {c : List G2} {es : List E3}, es = [] → DL H' r (gd c) → PV c es.length → (∀ r ∈ c, r.gok) → WI c es → c.length ≤ 2 * m + 1 → Pot a H' → Kb a H H' → Q (.ref r) H' := fun {H' c es} he q1 q2 q3 q4 q5 q6 q7 => by
    subst he
    have hv := q2.done
    exact hQ r H' c hr1 q1 hv q3 (q4.done hv) (by omega) q6 q7
  refine for_range (fun i σ H' => ∃ (c : List G2) (es : List E3) (v1 v6 v8 v9 v10 v11 : Option V), σ = [some (.ref a), v1, some (.ref p), some (.ref q), some (.int (m : Int)), some (.ref r), v6, some (.ref td), v8, v9, v10, v11] ∧ DL H' r (gd c) ∧ DL H' td (es.map e3) ∧ PV c es.length ∧ (∀ r ∈ c, r.gok) ∧ WI c es ∧ c.length ≤ i ∧ (∀ e ∈ es, EOk i e) ∧
      (i ≤ m → es.length ≤ 1 + i) ∧ (m < i → es.length + i ≤ 1 + 2 * m) ∧ NmL H' p ∧ PoL H' q ∧ Pot a H' ∧ Kb a H H')
    ⟨[], [(k, [], sp)], _, _, _, _, _, _, rfl, d1.same (((s2.tr s3).tr s4)), d4, PV.nil, (fun r hr => by cases hr), .inr ⟨(fun r hr => by cases hr), (fun e he => by rw [List.mem_singleton.mp he])⟩, Nat.zero_le _, (fun e he => by rw [List.mem_singleton.mp he]; exact ⟨hko, hsp, hsp8, (fun x hx => by cases hx), Nat.zero_le _⟩), (fun _ => Nat.le_refl _), (fun z => by omega), hW.same s14, hL.same s14, hP.same s14, Kb.same s14⟩ ?_ ?_
  · rintro i σ G hi ⟨c, es, v1, v6, v8, v9, v10, v11, rfl, dc, de, pv, hg, wi, hcl, heo, hb1, hb2, W, L, P0, k0⟩
    have hi : i < 2 * m + 1 := hi
    dsimp only [gName]
    walk_at "w"
    refine l_truth de ?_
    rw [show decide (es.map e3 ≠ []) = decide (es ≠ []) from map_ne]
    by_cases he : es = []
    · rw [decide_eq_false (by simp [he])]
      walk_at "w"
      exact fin he dc pv hg wi (by omega) P0 k0
    obtain ⟨es, ⟨kd, ar, s0⟩, rfl⟩ := snoc_of he
    rw [decide_eq_true he]
    walk_at "w"
    refine l_ty de ?_
    rw [List.map_append] at de
    walk_at "w"
    refine l_pop de (fun x G1 tx de1 x1' => ?_)
    obtain ⟨_, dl⟩ := de.lst
    have tm1 := de.tm_ex x1'
    have dc1 := dc.ex x1' hrt dl
    have W1 := W.ex x1' htp dl
    have L1 := L.ex x1' htq dl
    have P1 := P0.ex x1' hta.symm
    have k1 := k0.ex htd0 x1'
    obtain ⟨xa, xs, rfl, hxa, txs⟩ := tx.tuple
    obtain ⟨yk, yr, ys, rfl, tk, tr, ts⟩ := txs.three
    rw [ts.num] at hxa
    refine w_un3 rfl hxa ?_
    walk_at "w"
    obtain ⟨oko, osz, os8, oar, oal⟩ := heo (kd, ar, s0) (by simp)
    have oko : kd.ok := oko
    have osz : kd.sz ≤ 5 + 6 * s0 := osz
    have os8 : s0 ≤ 8 := os8
    have oar : ∀ x ∈ ar, x.ok ∧ x.sz ≤ 53 := oar
    have oal : ar.length ≤ i := oal
    have heo' : ∀ e ∈ es, EOk (i + 1) e := fun e' he' => by
      obtain ⟨a1, a2, a3, a4, a5⟩ := heo e' (List.mem_append_left _ he')
      exact ⟨a1, a2, a3, a4, by omega⟩
    rw [List.length_append] at pv hb1 hb2
    have pv : PV c (es.length + 1) := pv
    have hb1 : i ≤ m → es.length + 1 ≤ 1 + i := hb1
    have hb2 : m < i → es.length + 1 + i ≤ 1 + 2 * m := hb2
    have esl : es.length ≤ 200 := by
      by_cases z : i ≤ m
      · have := hb1 z; omega
      · have := hb2 (by omega); omega
    refine ⟨_, _, rfl, a, 6, rfl, rfl, by omega, by omega, P1, fun v2 H2 hv2 P2 k2 => ?_⟩
    walk_at "w"
    have tmk := Kb.pot_tm P1 k2
    have dc2 := DLkb dc1 P1 k2 hra
    have de2 := DLkb de1 P1 k2 hta
    have W2 := W1.kb P1 k2 hpa
    have L2' := L1.kb P1 k2 hqa
    have k02 := k1.tr k2
    have tk2 := tk.tm tmk
    have tr2 := tr.tm tmk
    have next : ∀ {H' : Hp} {u1 u6 u8 u9 u10 u11 : Option V} (c' : List G2) (es' : List E3), DL H' r (gd c') → DL H' td (es'.map e3) → PV c' es'.length → (∀ r ∈ c', r.gok) → WI c' es' → c'.length ≤ i + 1 → (∀ e ∈ es', EOk (i + 1) e) → (es'.length ≤ es.length + 2) → (m ≤ i → es'.length ≤ es.length) → NmL H' p → PoL H' q → Pot a H' → Kb a H H' →
        ∃ (c : List G2) (es : List E3) (v1 v6 v8 v9 v10 v11 : Option V), [some (.ref a), u1, some (.ref p), some (.ref q), some (.int (m : Int)), some (.ref r), u6, some (.ref td), u8, u9, u10, u11] = [some (.ref a), v1, some (.ref p), some (.ref q), some (.int (m : Int)), some (.ref r), v6, some (.ref td), v8, v9, v10, v11] ∧ DL H' r (gd c) ∧ DL H' td (es.map e3) ∧ PV c es.length ∧ (∀ r ∈ c, r.gok) ∧ WI c es ∧ c.length ≤ i + 1 ∧ (∀ e ∈ es, EOk (i + 1) e) ∧
      (i + 1 ≤ m → es.length ≤ 1 + (i + 1)) ∧ (m < i + 1 → es.length + (i + 1) ≤ 1 + 2 * m) ∧ NmL H' p ∧ PoL H' q ∧ Pot a H' ∧ Kb a H H' := fun {H' u1 u6 u8 u9 u10 u11} c' es' a1 a2 a3 a4 a5 a6 a7 a8 a9 a10 a11 a12 a13 =>
      ⟨c', es', _, _, _, _, _, _, rfl, a1, a2, a3, a4, a5, a6, a7, (fun z => by have := hb1 (by omega); omega), (fun z => by
        have h9 := a9 (by omega)
        by_cases zz : i = m
        · have := hb1 (by omega); omega
        · have := hb2 (by omega); omega), a10, a11, a12, a13⟩
    have hdc : (gd c).length ≤ 100000 := by unfold gd cd; rw [List.length_map, List.length_map]; omega
    have hde : (es.map e3).length ≤ 100000 := by rw [List.length_map]; omega
    obtain ⟨krest, ekd⟩ := kw_d kd
    have tkw : TD H2 yk (.tuple (.str (S (kw kd)) :: krest)) := by rw [← ekd]; exact tk2
    have e0 : (0 : Int) + (i : Int) = (i : Int) := by omega
    have hr2 : ∃ xs, H2 r = some (.lst xs) := dc2.lst
    have hd2 : ∃ xs, H2 td = some (.lst xs) := de2.lst
    rw [e0]
    have bS : ∀ {A B : Hp}, Same A B → (NmL A p ∧ PoL A q ∧ Pot a A ∧ Kb a H A) → (NmL B p ∧ PoL B q ∧ Pot a B ∧ Kb a H B) := fun s ⟨w, l, p0, k0⟩ => ⟨w.same s, l.same s, p0.same s, k0.then s⟩
    have bR : ∀ {A B : Hp}, Ex r A B → (∃ xs, A r = some (.lst xs)) → (NmL A p ∧ PoL A q ∧ Pot a A ∧ Kb a H A) → (NmL B p ∧ PoL B q ∧ Pot a B ∧ Kb a H B) := fun x ⟨_, e⟩ ⟨w, l, p0, k0⟩ => ⟨w.ex x hrp e, l.ex x hrq e, p0.ex x hra.symm, k0.ex hr1 x⟩
    have bT : ∀ {A B : Hp}, Ex td A B → (∃ xs, A td = some (.lst xs)) → (NmL A p ∧ PoL A q ∧ Pot a A ∧ Kb a H A) → (NmL B p ∧ PoL B q ∧ Pot a B ∧ Kb a H B) := fun x ⟨_, e⟩ ⟨w, l, p0, k0⟩ => ⟨w.ex x htp e, l.ex x htq e, p0.ex x hta.symm, k0.ex htd0 x⟩
    have b2 : NmL H2 p ∧ PoL H2 q ∧ Pot a H2 ∧ Kb a H H2 := ⟨W2, L2', P2, k02⟩
    have oar1 : ∀ {e : Kd}, (∀ x ∈ ar, x.ok ∧ x.sz ≤ 53) := fun x hx => oar x hx
    refine ite_els ?_ (fun hZ g1 => ?_)
    · rw [if_neg Bool.false_ne_true]
      refine w_ifS ?_
      walk_at "w"
      refine ite_els ?_ (fun hZ g1 => ?_)
      · rw [if_neg Bool.false_ne_true]
        walk_at "w"
        refine l_ty dc2 ?_
        walk_at "w"
        refine ⟨_, _, _, _, rfl, a, p, kd, ar, rfl, rfl, P2, W2, tk2, tr2, ⟨oko, by have := Nat.le_trans osz (show 5 + 6 * s0 ≤ 53 by omega); omega⟩, (fun x hx => ⟨(oar x hx).1, by have := (oar x hx).2; omega⟩), by omega, fun v3 H3 l hl hli t3 P3 k3 => ?_⟩
        walk_at "w"
        have dc3 := DLkb dc2 P2 k3 hra
        have de3 := DLkb de2 P2 k3 hta
        have b3 : NmL H3 p ∧ PoL H3 q ∧ Pot a H3 ∧ Kb a H H3 := ⟨W2.kb P2 k3 hpa, L2'.kb P2 k3 hqa, P3, k02.tr k3⟩
        refine l_app dc3 t3 (fun H4 dc4 x4 => ?_) hdc
        have b4 := bR x4 dc3.lst b3
        have de4 : DL H4 td (es.map e3) := let ⟨_, e⟩ := dc3.lst; de3.ex x4 hrt.symm e
        walk_at "w"
        have wi' : WI (c ++ [Rw.tip l]) es := by
          rcases wi with ⟨x, hx, hw⟩ | ⟨h1, h2⟩
          · exact .inl ⟨x, List.mem_append_left _ hx, hw⟩
          · refine .inl ⟨.tip l, List.mem_append_right _ List.mem_cons_self, ?_⟩
            cases l with
            | var _ _ => trivial
            | cst _ _ => trivial
            | bnd n =>
              have := h2 (kd, ar, s0) (by simp)
              have : ar = [] := this
              subst this
              exact absurd (hli n rfl) (Nat.not_lt_zero _)
        refine next (c ++ [Rw.tip l]) es (by rw [gd_snoc]; exact dc4) de4 (by exact pv.add' (r := .tip l) rfl) (fun x hx => ?_) wi' (by rw [List.length_append]; show c.length + 1 ≤ i + 1; omega) heo' (by omega) (fun z => Nat.le_refl _) b4.1 b4.2.1 b4.2.2.1 b4.2.2.2
        rcases List.mem_append.mp hx with hx | hx
        · exact hg x hx
        · rw [List.mem_singleton.mp hx]; exact hl
      have him : i < m := by have := of_decide_eq_true g1; omega
      walk_at "w"
      refine ite_els hZ (fun _ g2 => ?_)
      walk_at "w"
      refine ite_els hZ (fun _ g3 => ?_)
      have g3 : decide ((s0 : Int) < 8) = true := g3
      have hs8 : s0 < 8 := by have := of_decide_eq_true g3; omega
      walk_at "w"
      refine ⟨_, _, rfl, a, 4, rfl, rfl, by omega, by omega, P2, fun v3 H3 hv3 P3 k3 => ?_⟩
      walk_at "w"
      refine (L2'.kb P2 k3 hqa).ix hv3 (fun xo ko oko2 szo txo => ?_)
      walk_at "w"
      have dc3 := DLkb dc2 P2 k3 hra
      have de3 := DLkb de2 P2 k3 hta
      have m3 : Tm H2 H3 := Kb.pot_tm P2 k3
      have b3 : NmL H3 p ∧ PoL H3 q ∧ Pot a H3 ∧ Kb a H H3 := ⟨W2.kb P2 k3 hpa, L2'.kb P2 k3 hqa, P3, k02.tr k3⟩
      refine l_ty dc3 ?_
      walk_at "w"
      refine t_new (ds := [.str (S wAPP)]) (.cons (.str _) .nil) (fun p4 H4 hp4 s4 t4 => ?_)
      walk_at "w"
      refine l_app (dc3.same s4) t4 (fun H5 dc5 x5 => ?_) hdc
      have b5 := bR x5 (dc3.same s4).lst (bS s4 b3)
      have m5 : Tm H3 H5 := (Tm.same s4).tr ((dc3.same s4).tm_ex x5)
      have de5 : DL H5 td (es.map e3) := let ⟨_, e⟩ := (dc3.same s4).lst; (de3.same s4).ex x5 hrt.symm e
      walk_at "w"
      refine l_ty de5 ?_
      walk_at "w"
      refine t_new (ds := [ko.d, arD ar, .int ((0 : Nat) : Int)]) (.cons (txo.tm m5) (.cons (tr2.tm (m3.tr m5)) (.cons (.int _) .nil))) (fun p6 H6 hp6 s6 t6 => ?_)
      walk_at "w"
      refine l_app (d := e3 (ko, ar, 0)) (de5.same s6) t6 (fun H7 de7 x7 => ?_) hde
      have b7 := bT x7 (de5.same s6).lst (bS s6 b5)
      have m7 : Tm H5 H7 := (Tm.same s6).tr ((de5.same s6).tm_ex x7)
      have dc7 : DL H7 r (gd c ++ [Rw.d (upR .app)]) := let ⟨_, e⟩ := (de5.same s6).lst; (dc5.same s6).ex x7 hrt e
      have de7 : DL H7 td ((es ++ [(ko, ar, 0)]).map e3) := by rw [List.map_append]; exact de7
      walk_at "w"
      refine l_ty de7 ?_
      walk_at "w"
      refine t_new (ds := [.str (S wTO), ko.d, kd.d]) (.cons (.str _) (.cons (txo.tm (m5.tr m7)) (.cons (tk2.tm ((m3.tr m5).tr m7)) .nil))) (fun p8 H8 hp8 s8 t8 => ?_)
      walk_at "w"
      rw [show ((s0 : Int) + 1) = ((s0 + 1 : Nat) : Int) by omega]
      refine t_new (ds := [Kd.d (.to ko kd), arD ar, .int ((s0 + 1 : Nat) : Int)]) (.cons t8 (.cons (tr2.tm (((m3.tr m5).tr m7).tr (Tm.same s8))) (.cons (.int _) .nil))) (fun p9 H9 hp9 s9 t9 => ?_)
      walk_at "w"
      have s79 := s8.tr s9
      refine l_app (d := e3 (.to ko kd, ar, s0 + 1)) (de7.same s79) t9 (fun H10 de10 x10 => ?_) (by rw [List.length_map, List.length_append]; show es.length + 1 ≤ 100000; omega)
      have b10 := bT x10 (de7.same s79).lst (bS s79 b7)
      have dc10 : DL H10 r (gd c ++ [Rw.d (upR .app)]) := let ⟨_, e⟩ := (de7.same s79).lst; (dc7.same s79).ex x10 hrt e
      walk_at "w"
      have wi' : WI (c ++ [Rw.app]) ((es ++ [(ko, ar, 0)]) ++ [(.to ko kd, ar, s0 + 1)]) := by
        rcases wi with ⟨x, hx, hw⟩ | ⟨h1, h2⟩
        · exact .inl ⟨x, List.mem_append_left _ hx, hw⟩
        · refine .inr ⟨fun x hx => ?_, fun e he => ?_⟩
          · rcases List.mem_append.mp hx with hx | hx
            · exact h1 x hx
            · exact List.mem_singleton.mp hx
          · have h0 : ar = [] := h2 (kd, ar, s0) (by simp)
            rcases List.mem_append.mp he with he | he
            · rcases List.mem_append.mp he with he | he
              · exact h2 e (List.mem_append_left _ he)
              · rw [List.mem_singleton.mp he]; exact h0
            · rw [List.mem_singleton.mp he]; exact h0
      have ele : ((es ++ [(ko, ar, 0)]) ++ [((.to ko kd : Kd), ar, s0 + 1)]).length = es.length + 2 := by rw [List.length_append, List.length_append]; rfl
      refine next (c ++ [.app]) ((es ++ [(ko, ar, 0)]) ++ [(.to ko kd, ar, s0 + 1)]) (by rw [gd_snoc]; exact dc10) (by rw [List.map_append]; exact de10) (by rw [ele]; exact pv.add (r := .app)) (fun x hx => ?_) wi' (by rw [List.length_append]; show c.length + 1 ≤ i + 1; omega) (fun e he => ?_) (by omega) (fun z => by omega) b10.1 b10.2.1 b10.2.2.1 b10.2.2.2
      · rcases List.mem_append.mp hx with hx | hx
        · exact hg x hx
        · rw [List.mem_singleton.mp hx]; trivial
      · rcases List.mem_append.mp he with he | he
        · rcases List.mem_append.mp he with he | he
          · exact heo' e he
          · rw [List.mem_singleton.mp he]
            exact ⟨oko2, by show ko.sz ≤ 5 + 6 * 0; omega, Nat.zero_le _, oar, by show ar.length ≤ i + 1; omega⟩
        · rw [List.mem_singleton.mp he]
          exact ⟨⟨oko2, oko⟩, by show ko.sz + kd.sz + 1 ≤ 5 + 6 * (s0 + 1); omega, by show s0 + 1 ≤ 8; omega, oar, by show ar.length ≤ i + 1; omega⟩
    walk_at "w"
    refine ite_els hZ (fun _ g2 => ?_)
    walk_at "w"
    refine t_ixS (n := 0) tkw rfl ?_
    walk_at "w"
    refine ite_els hZ (fun _ g3 => ?_)
    walk_at "w"
    refine ite_els hZ (fun _ g4 => ?_)
    obtain ⟨ka, kb, rfl⟩ := kw_to (of_decide_eq_true g3)
    have tk2 : TD H2 yk (.tuple [.str (S wTO), ka.d, kb.d]) := tk2
    have oab : ka.sz + kb.sz + 1 ≤ 5 + 6 * s0 := osz
    have him : i < m := by have := of_decide_eq_true g1; omega
    walk_at "w"
    refine l_ty dc2 ?_
    walk_at "w"
    refine t_ix (n := 1) tk2 rfl (fun xa txa => ?_)
    walk_at "w"
    refine t_new (ds := [.str (S wLAM), ka.d]) (.cons (.str _) (.cons txa .nil)) (fun p3 H3 hp3 s3 t3 => ?_)
    walk_at "w"
    refine l_app (dc2.same s3) t3 (fun H4 dc4 x4 => ?_) hdc
    have b4 := bR x4 (dc2.same s3).lst (bS s3 b2)
    have m4 : Tm H2 H4 := (Tm.same s3).tr ((dc2.same s3).tm_ex x4)
    have de4 : DL H4 td (es.map e3) := let ⟨_, e⟩ := (dc2.same s3).lst; (de2.same s3).ex x4 hrt.symm e
    walk_at "w"
    refine l_ty de4 ?_
    walk_at "w"
    refine t_ix (n := 2) (tk2.tm m4) rfl (fun xb txb => ?_)
    walk_at "w"
    refine t_ix (n := 1) (tk2.tm m4) rfl (fun xa2 txa2 => ?_)
    walk_at "w"
    refine t_new (ds := [ka.d]) (.cons txa2 .nil) (fun p5 H5 hp5 s5 t5 => ?_)
    walk_at "w"
    refine t_cat t5 ((tr2.tm m4).tm (Tm.same s5)) (by simp) (fun z6 H6 s6 t6 => ?_) (by rw [List.length_map]; show 1 + ar.length ≤ 100000; omega)
    walk_at "w"
    refine t_new (ds := [kb.d, arD (ka :: ar), .int (s0 : Int)]) (.cons (txb.tm (Tm.same (s5.tr s6))) (.cons t6 (.cons (.int _) .nil))) (fun p7 H7 hp7 s7 t7 => ?_)
    walk_at "w"
    have s47 := (s5.tr s6).tr s7
    refine l_app (d := e3 (kb, ka :: ar, s0)) (de4.same s47) t7 (fun H8 de8 x8 => ?_) hde
    have b8 := bT x8 (de4.same s47).lst (bS s47 b4)
    have dc8 : DL H8 r (gd c ++ [Rw.d (upR (.lam ka))]) := let ⟨_, e⟩ := (de4.same s47).lst; (dc4.same s47).ex x8 hrt e
    walk_at "w"
    refine next (c ++ [.lam ka]) (es ++ [(kb, ka :: ar, s0)]) (by rw [gd_snoc]; exact dc8) (by rw [List.map_append]; exact de8) (by rw [List.length_append]; exact pv.add (r := .lam ka)) (fun x hx => ?_) (.inl ⟨.lam ka, List.mem_append_right _ List.mem_cons_self, trivial⟩) (by rw [List.length_append]; show c.length + 1 ≤ i + 1; omega) (fun e he => ?_) (by rw [List.length_append]; show es.length + 1 ≤ _; omega) (fun z => by omega) b8.1 b8.2.1 b8.2.2.1 b8.2.2.2
    · rcases List.mem_append.mp hx with hx | hx
      · exact hg x hx
      · rw [List.mem_singleton.mp hx]; exact ⟨oko.1, by omega⟩
    · rcases List.mem_append.mp he with he | he
      · exact heo' e he
      · rw [List.mem_singleton.mp he]
        refine ⟨oko.2, by show kb.sz ≤ 5 + 6 * s0; omega, os8, fun x hx => ?_, by show ar.length + 1 ≤ i + 1; omega⟩
        rcases List.mem_cons.mp hx with rfl | hx
        · exact ⟨oko.1, by omega⟩
        · exact oar x hx
  · rintro σ G ⟨c, es, v1, v6, v8, v9, v10, v11, rfl, dc, de, pv, hg, wi, hcl, heo, hb1, hb2, W, L, P0, k0⟩
    walk_at "w"
    have := hb2 (by omega)
    exact fin (List.length_eq_zero_iff.mp (by omega)) dc pv hg wi hcl P0 k0
end
end K02

namespace K02
open PySem PySem.Spec PyProof.Rows L2 SX
local macro_rules | `(tactic| walk_at "w1") => `(tactic| (first
  | with_reducible refine w_seq ?_ | with_reducible refine w_asgN ?_ | with_reducible refine w_c ?_
  | ((with_reducible refine' w_var ?wv ?_); (case wv => exact rfl))
  | with_reducible refine w_op ?_ | with_reducible refine w_un ?_ | with_reducible refine w_next ?_ | with_reducible refine w_brk ?_ | with_reducible refine w_cnt ?_
  | with_reducible refine w_ifS ?_ | with_reducible refine w_if ?_ | with_reducible refine w_test ?_ | with_reducible refine w_tB ?_ | with_reducible refine w_bl ?_ | with_reducible refine w_blI ?_
  | with_reducible refine w_and ?_ | with_reducible refine w_or ?_ | with_reducible refine w_not ?_ | with_reducible refine w_andV ?_ | with_reducible refine w_orV ?_ | with_reducible refine w_notV ?_
  | with_reducible refine w_nil ?_ | with_reducible refine w_cons ?_ | with_reducible refine w_cb ?_ | with_reducible refine w_call ?_ | with_reducible refine w_callS ?_ | with_reducible refine w_chain ?_
  | with_reducible refine w_tupN ?_ | with_reducible refine w_lstN ?_ | with_reducible refine w_sl ?_ | with_reducible refine w_noPart ?_ | with_reducible refine w_part ?_ | with_reducible refine w_partI ?_
  | with_reducible refine w_ret ?_ | with_reducible refine w_retN ?_ | with_reducible refine w_drop ?_ | with_reducible refine w_asg ?_ | with_reducible refine w_gSub ?_
  | ((with_reducible refine' w_aug ?wv ?_); (case wv => exact rfl)) | with_reducible refine w_ipI ?_
  | with_reducible refine w_addI ?_ | with_reducible refine w_subI ?_ | with_reducible refine w_ltI ?_ | with_reducible refine w_leI ?_ | with_reducible refine w_gtI ?_ | with_reducible refine w_geI ?_
  | with_reducible refine w_eqI ?_ | with_reducible refine w_neI ?_ | with_reducible refine w_eqT ?_ | with_reducible refine w_neT ?_ | with_reducible refine w_inS ?_ | with_reducible refine w_ninS ?_
  | with_reducible refine w_absI ?_ | with_reducible refine w_intI ?_ | with_reducible refine w_maxI ?_ | with_reducible refine w_minI ?_
  | with_reducible refine w_for ?_ | with_reducible refine w_iR1 ?_ | with_reducible refine w_iR2 ?_ | with_reducible refine w_iStr ?_ | with_reducible refine w_strI ?_ | with_reducible refine w_iList ?_ | with_reducible refine w_iTup ?_
  | with_reducible refine w_bm ?_ | with_reducible refine w_bm0 ?_ | with_reducible refine w_t ?_ | with_reducible refine w_f ?_ | with_reducible refine w_nt ?_ | with_reducible refine w_nx ?_ | with_reducible refine w_rt ?_ | with_reducible refine w_bk ?_ | with_reducible refine w_ct ?_ | with_reducible refine w_nf ?_ | with_reducible refine w_lc ?_ | with_reducible refine w_yes ?_ | with_reducible refine w_neg ?_ | with_reducible refine w_intB ?_ | with_reducible refine w_fld ?_ | with_reducible refine w_setf ?_ | with_reducible refine w_faug ?_ | with_reducible refine w_meth ?_ | with_reducible refine w_bmS ?_ | with_reducible refine w_start ?_ | with_reducible refine w_revL ?_ | with_reducible refine w_iR3 ?_))
local macro_rules | `(tactic| walk_at "w") => `(tactic| (repeat (first | walk_at "w1" | dsimp (config := { proj := false }) only [List.set_cons_zero, List.set_cons_succ])))
section
variable {w : World} {K : PySem.W.Frag} {mg : Str → Option Value} {base : Heap}
local macro_rules | `(tactic| walk_at "v1") => `(tactic| (first
  | with_reducible refine w_seq ?_ | with_reducible refine w_asgN ?_ | with_reducible refine w_c ?_
  | ((with_reducible refine' w_var ?wv ?_); (case wv => exact rfl))
  | with_reducible refine w_op ?_ | with_reducible refine w_un ?_ | with_reducible refine w_next ?_ | with_reducible refine w_brk ?_ | with_reducible refine w_cnt ?_
  | with_reducible refine w_ifS ?_ | with_reducible refine w_if ?_ | with_reducible refine w_test ?_ | with_reducible refine w_tB ?_ | with_reducible refine w_bl ?_ | with_reducible refine w_blI ?_
  | with_reducible refine w_and ?_ | with_reducible refine w_or ?_ | with_reducible refine w_not ?_ | with_reducible refine w_andV ?_ | with_reducible refine w_orV ?_ | with_reducible refine w_notV ?_
  | with_reducible refine w_nil ?_ | with_reducible refine w_cons ?_ | with_reducible refine w_cb ?_ | with_reducible refine w_call ?_ | with_reducible refine w_callS ?_ | with_reducible refine w_chain ?_
  | with_reducible refine w_sl ?_ | with_reducible refine w_noPart ?_ | with_reducible refine w_part ?_ | with_reducible refine w_partI ?_
  | with_reducible refine w_ret ?_ | with_reducible refine w_retN ?_ | with_reducible refine w_drop ?_ | with_reducible refine w_asg ?_ | with_reducible refine w_gSub ?_
  | ((with_reducible refine' w_aug ?wv ?_); (case wv => exact rfl)) | with_reducible refine w_ipI ?_
  | with_reducible refine w_addI ?_ | with_reducible refine w_subI ?_ | with_reducible refine w_ltI ?_ | with_reducible refine w_leI ?_ | with_reducible refine w_gtI ?_ | with_reducible refine w_geI ?_
  | with_reducible refine w_eqI ?_ | with_reducible refine w_neI ?_ | with_reducible refine w_eqT ?_ | with_reducible refine w_neT ?_ | with_reducible refine w_inS ?_ | with_reducible refine w_ninS ?_
  | with_reducible refine w_absI ?_ | with_reducible refine w_intI ?_ | with_reducible refine w_maxI ?_ | with_reducible refine w_minI ?_
  | with_reducible refine w_for ?_ | with_reducible refine w_iR1 ?_ | with_reducible refine w_iR2 ?_ | with_reducible refine w_iStr ?_ | with_reducible refine w_strI ?_ | with_reducible refine w_iList ?_ | with_reducible refine w_iTup ?_
  | with_reducible refine w_bm ?_ | with_reducible refine w_bm0 ?_ | with_reducible refine w_t ?_ | with_reducible refine w_f ?_ | with_reducible refine w_nt ?_ | with_reducible refine w_nx ?_ | with_reducible refine w_rt ?_ | with_reducible refine w_bk ?_ | with_reducible refine w_ct ?_ | with_reducible refine w_nf ?_ | with_reducible refine w_lc ?_ | with_reducible refine w_yes ?_ | with_reducible refine w_neg ?_ | with_reducible refine w_intB ?_ | with_reducible refine w_fld ?_ | with_reducible refine w_setf ?_ | with_reducible refine w_faug ?_ | with_reducible refine w_meth ?_ | with_reducible refine w_bmS ?_ | with_reducible refine w_start ?_ | with_reducible refine w_revL ?_ | with_reducible refine w_iR3 ?_))
local macro_rules | `(tactic| walk_at "v") => `(tactic| (repeat (first | walk_at "v1" | dsimp (config := { proj := false }) only [List.set_cons_zero, List.set_cons_succ])))
local macro_rules | `(tactic| walk_at "d") => `(tactic| (repeat (first | exact eva_nil | refine eva_cons ?_ ?_ | exact ev_str | exact ev_int | exact ev_neg | refine ev_tup ?_ | (refine ev_var rfl ?_; assumption))))


def sp_law_long : Sp := sp3 fun x y z H Q _ => ∃ (a p : Addr) (n : Nat), x = .ref a ∧ y = .ref p ∧ z = .int (n : Int) ∧ 1 ≤ n ∧ n ≤ 1000 ∧ Pot a H ∧ NmL H p ∧ ∀ v H' (k : Kd), k.ok → k.sz = 2 * n - 1 → TD H' v k.d → Pot a H' → Kb a H H' → Q v H'
theorem ok_law_long (T : Txt w K mg) {fd : FuncData} (F : Fn_law_long K fd) (hm : mg "_law_long" = some (.ref (He.ga K "_law_long"))) (c_law_take : CalX P w K mg base CX0 1 "_law_take" sp_law_take) : CalX P w K mg base CX0 2 "_law_long" sp_law_long := by
  refine calx0 (k := 1) F hm sc_law_long (b_law_long F) (fun _ _ _ _ h => sp3_len h) (fun cdv A outer s H vs Q E hr h => ?_)
  obtain ⟨x0, x1, x2, rfl, h⟩ := h
  refine ⟨_, (pss_cons (ps_set (i := 3) sc_law_long.nd rfl (Or.inl rfl) (pe_tup (pa_cons pe_str (pa_cons (pe_ix ix_list (pv 1) (pe_cx c_law_take hr (by decide) rfl pass0 (pa_cons (pv 0) (pa_cons pe_int pa_nil))) (fun _ _ => rfl)) pa_nil))))
    (pss_cons (ps_set (i := 4) sc_law_long.nd rfl (Or.inl rfl) (pe_cx c_law_take hr (by decide) rfl pass0 (pa_cons (pv 0) (pa_cons pe_int pa_nil))))
    (pss_cons (ps_set (i := 5) sc_law_long.nd rfl (Or.inl rfl) (pv 3))
    (pss_cons (ps_for PassesOwn.never rfl (pi_range1 (by rfl) T.f_range (pa_cons (pe_op op_subI (pv 2) pe_int) pa_nil)) (pg_name (i := 6) sc_law_long.nd rfl (Or.inl rfl))
    (pss_one (ps_if (pt_cmpR op_eq (pv 4) pe_int (nomark _))
    (pss_one (ps_set (i := 5) sc_law_long.nd rfl (Or.inl rfl) (pe_tup (pa_cons pe_str (pa_cons (pv 3) (pa_cons (pv 5) pa_nil))))))
    (pss_one (ps_set (i := 5) sc_law_long.nd rfl (Or.inl rfl) (pe_tup (pa_cons pe_str (pa_cons (pv 5) (pa_cons (pv 3) pa_nil)))))))))
    (pss_one (ps_ret (pv 5))))))), ?_⟩
  rw [show start ["pot", "words", "count", "tip", "way", "kind", "k"] [x0, x1, x2] = [some x0, some x1, some x2, none, none, none, none] from rfl]
  have ec0 : Str.ofString "named" = S [110,97,109,101,100] := S_ofs (by decide +kernel)
  have ec1 : Str.ofString "to" = S [116,111] := S_ofs (by decide +kernel)
  rw [ec0, ec1]
  obtain ⟨a, p, n, rfl, rfl, rfl, hn1, hn2, hP, hW, hQ⟩ := h
  have hpa : p ≠ a := hW.ne hP
  try dsimp only [cxOf]
  walk_at "w"
  refine ⟨_, _, rfl, a, 4, rfl, rfl, by omega, by omega, hP, fun v1 H1 hv1 P1 k1 => ?_⟩
  walk_at "w"
  refine (hW.kb hP k1 hpa).ix hv1 (fun w1 n1 => ?_)
  walk_at "w"
  refine t_new (ds := [.str (S wNAMED), .str (S w1)]) (.cons (.str _) (.cons (.str _) .nil)) (fun p2 H2 hp2 s2 t2 => ?_)
  walk_at "w"
  have P2 := P1.same s2
  refine ⟨_, _, rfl, a, 2, rfl, rfl, by omega, by omega, P2, fun v3 H3 hv3 P3 k3 => ?_⟩
  walk_at "w"
  refine w_rg1 (by omega) (by omega) ?_
  rw [show ((n : Int) - 1).toNat = n - 1 by omega]
  have kk := (k1.then s2).tr k3
  have t3 := t2.tm (Kb.pot_tm P2 k3)
  refine for_range (fun i σ H' => ∃ (v : V) (v6 : Option V) (k : Kd), σ = [some (.ref a), some (.ref p), some (.int (n : Int)), some (.ref p2), some (.int (v3 : Int)), some v, v6] ∧ Same H3 H' ∧ TD H' v k.d ∧ k.ok ∧ k.sz = 2 * i + 1)
    ⟨_, _, .nm w1, rfl, Same.refl' _, t3, .inl n1, rfl⟩ ?_ ?_
  · rintro i σ G hi ⟨v, v6, k, rfl, s, tk, ok, sz⟩
    dsimp only [gName]
    walk_at "w"
    have tt := t3.tm (Tm.same s)
    refine w_b (fun _ => ?_) (fun _ => ?_)
    · walk_at "w"
      refine t_new (ds := [.str (S wTO), Kd.d (.nm w1), k.d]) (.cons (.str _) (.cons tt (.cons tk .nil))) (fun p4 H4 hp4 s4 t4 => ?_)
      walk_at "w"
      exact ⟨_, _, .to (.nm w1) k, rfl, s.tr s4, t4, ⟨.inl n1, ok⟩, by show 1 + k.sz + 1 = 2 * (i + 1) + 1; omega⟩
    · walk_at "w"
      refine t_new (ds := [.str (S wTO), k.d, Kd.d (.nm w1)]) (.cons (.str _) (.cons tk (.cons tt .nil))) (fun p4 H4 hp4 s4 t4 => ?_)
      walk_at "w"
      exact ⟨_, _, .to k (.nm w1), rfl, s.tr s4, t4, ⟨ok, .inl n1⟩, by show k.sz + 1 + 1 = 2 * (i + 1) + 1; omega⟩
  · rintro σ G ⟨v, v6, k, rfl, s, tk, ok, sz⟩
    walk_at "w"
    exact hQ _ _ k ok (by omega) tk (P3.same s) (kk.then s)
end
end K02

namespace K02
open PySem PySem.Spec PyProof.Rows L2 SX
local macro_rules | `(tactic| walk_at "w1") => `(tactic| (first
  | with_reducible refine w_seq ?_ | with_reducible refine w_asgN ?_ | with_reducible refine w_c ?_
  | ((with_reducible refine' w_var ?wv ?_); (case wv => exact rfl))
  | with_reducible refine w_op ?_ | with_reducible refine w_un ?_ | with_reducible refine w_next ?_ | with_reducible refine w_brk ?_ | with_reducible refine w_cnt ?_
  | with_reducible refine w_ifS ?_ | with_reducible refine w_if ?_ | with_reducible refine w_test ?_ | with_reducible refine w_tB ?_ | with_reducible refine w_bl ?_ | with_reducible refine w_blI ?_
  | with_reducible refine w_and ?_ | with_reducible refine w_or ?_ | with_reducible refine w_not ?_ | with_reducible refine w_andV ?_ | with_reducible refine w_orV ?_ | with_reducible refine w_notV ?_
  | with_reducible refine w_nil ?_ | with_reducible refine w_cons ?_ | with_reducible refine w_cb ?_ | with_reducible refine w_call ?_ | with_reducible refine w_callS ?_ | with_reducible refine w_chain ?_
  | with_reducible refine w_tupN ?_ | with_reducible refine w_lstN ?_ | with_reducible refine w_sl ?_ | with_reducible refine w_noPart ?_ | with_reducible refine w_part ?_ | with_reducible refine w_partI ?_
  | with_reducible refine w_ret ?_ | with_reducible refine w_retN ?_ | with_reducible refine w_drop ?_ | with_reducible refine w_asg ?_ | with_reducible refine w_gSub ?_
  | ((with_reducible refine' w_aug ?wv ?_); (case wv => exact rfl)) | with_reducible refine w_ipI ?_
  | with_reducible refine w_addI ?_ | with_reducible refine w_subI ?_ | with_reducible refine w_ltI ?_ | with_reducible refine w_leI ?_ | with_reducible refine w_gtI ?_ | with_reducible refine w_geI ?_
  | with_reducible refine w_eqI ?_ | with_reducible refine w_neI ?_ | with_reducible refine w_eqT ?_ | with_reducible refine w_neT ?_ | with_reducible refine w_inS ?_ | with_reducible refine w_ninS ?_
  | with_reducible refine w_absI ?_ | with_reducible refine w_intI ?_ | with_reducible refine w_maxI ?_ | with_reducible refine w_minI ?_
  | with_reducible refine w_for ?_ | with_reducible refine w_iR1 ?_ | with_reducible refine w_iR2 ?_ | with_reducible refine w_iStr ?_ | with_reducible refine w_strI ?_ | with_reducible refine w_iList ?_ | with_reducible refine w_iTup ?_
  | with_reducible refine w_bm ?_ | with_reducible refine w_bm0 ?_ | with_reducible refine w_t ?_ | with_reducible refine w_f ?_ | with_reducible refine w_nt ?_ | with_reducible refine w_nx ?_ | with_reducible refine w_rt ?_ | with_reducible refine w_bk ?_ | with_reducible refine w_ct ?_ | with_reducible refine w_nf ?_ | with_reducible refine w_lc ?_ | with_reducible refine w_yes ?_ | with_reducible refine w_neg ?_ | with_reducible refine w_intB ?_ | with_reducible refine w_fld ?_ | with_reducible refine w_setf ?_ | with_reducible refine w_faug ?_ | with_reducible refine w_meth ?_ | with_reducible refine w_bmS ?_ | with_reducible refine w_start ?_ | with_reducible refine w_revL ?_ | with_reducible refine w_iR3 ?_))
local macro_rules | `(tactic| walk_at "w") => `(tactic| (repeat (first | walk_at "w1" | dsimp (config := { proj := false }) only [List.set_cons_zero, List.set_cons_succ])))
section
variable {w : World} {K : PySem.W.Frag} {mg : Str → Option Value} {base : Heap}
local macro_rules | `(tactic| walk_at "v1") => `(tactic| (first
  | with_reducible refine w_seq ?_ | with_reducible refine w_asgN ?_ | with_reducible refine w_c ?_
  | ((with_reducible refine' w_var ?wv ?_); (case wv => exact rfl))
  | with_reducible refine w_op ?_ | with_reducible refine w_un ?_ | with_reducible refine w_next ?_ | with_reducible refine w_brk ?_ | with_reducible refine w_cnt ?_
  | with_reducible refine w_ifS ?_ | with_reducible refine w_if ?_ | with_reducible refine w_test ?_ | with_reducible refine w_tB ?_ | with_reducible refine w_bl ?_ | with_reducible refine w_blI ?_
  | with_reducible refine w_and ?_ | with_reducible refine w_or ?_ | with_reducible refine w_not ?_ | with_reducible refine w_andV ?_ | with_reducible refine w_orV ?_ | with_reducible refine w_notV ?_
  | with_reducible refine w_nil ?_ | with_reducible refine w_cons ?_ | with_reducible refine w_cb ?_ | with_reducible refine w_call ?_ | with_reducible refine w_callS ?_ | with_reducible refine w_chain ?_
  | with_reducible refine w_sl ?_ | with_reducible refine w_noPart ?_ | with_reducible refine w_part ?_ | with_reducible refine w_partI ?_
  | with_reducible refine w_ret ?_ | with_reducible refine w_retN ?_ | with_reducible refine w_drop ?_ | with_reducible refine w_asg ?_ | with_reducible refine w_gSub ?_
  | ((with_reducible refine' w_aug ?wv ?_); (case wv => exact rfl)) | with_reducible refine w_ipI ?_
  | with_reducible refine w_addI ?_ | with_reducible refine w_subI ?_ | with_reducible refine w_ltI ?_ | with_reducible refine w_leI ?_ | with_reducible refine w_gtI ?_ | with_reducible refine w_geI ?_
  | with_reducible refine w_eqI ?_ | with_reducible refine w_neI ?_ | with_reducible refine w_eqT ?_ | with_reducible refine w_neT ?_ | with_reducible refine w_inS ?_ | with_reducible refine w_ninS ?_
  | with_reducible refine w_absI ?_ | with_reducible refine w_intI ?_ | with_reducible refine w_maxI ?_ | with_reducible refine w_minI ?_
  | with_reducible refine w_for ?_ | with_reducible refine w_iR1 ?_ | with_reducible refine w_iR2 ?_ | with_reducible refine w_iStr ?_ | with_reducible refine w_strI ?_ | with_reducible refine w_iList ?_ | with_reducible refine w_iTup ?_
  | with_reducible refine w_bm ?_ | with_reducible refine w_bm0 ?_ | with_reducible refine w_t ?_ | with_reducible refine w_f ?_ | with_reducible refine w_nt ?_ | with_reducible refine w_nx ?_ | with_reducible refine w_rt ?_ | with_reducible refine w_bk ?_ | with_reducible refine w_ct ?_ | with_reducible refine w_nf ?_ | with_reducible refine w_lc ?_ | with_reducible refine w_yes ?_ | with_reducible refine w_neg ?_ | with_reducible refine w_intB ?_ | with_reducible refine w_fld ?_ | with_reducible refine w_setf ?_ | with_reducible refine w_faug ?_ | with_reducible refine w_meth ?_ | with_reducible refine w_bmS ?_ | with_reducible refine w_start ?_ | with_reducible refine w_revL ?_ | with_reducible refine w_iR3 ?_))
local macro_rules | `(tactic| walk_at "v") => `(tactic| (repeat (first | walk_at "v1" | dsimp (config := { proj := false }) only [List.set_cons_zero, List.set_cons_succ])))
local macro_rules | `(tactic| walk_at "d") => `(tactic| (repeat (first | exact eva_nil | refine eva_cons ?_ ?_ | exact ev_str | exact ev_int | exact ev_neg | refine ev_tup ?_ | (refine ev_var rfl ?_; assumption))))


def spoilts : List (List Nat) := [[], [97,108,108], [115,111,109,101], [108,97,109], [116,114,117,101], [102,97,108,115,101], [78,97,109,101], [49,97], [95,97], [97,32,98], [97,10], [97,98,99,100,101,102,103,104,105,106,107,108,109,110,111,112,113]]
def okM0 (w sp : List Nat) : List PyData := [.tuple [], .str (S w), .int 3, .tuple [.str (S [110,97,109,101,100])], .tuple [.str (S [116,111]), .tuple [.str (S wNAMED), .str (S w)]], .tuple [.str (S [116,111]), .tuple [.str (S wNAMED), .str (S w)], .tuple [.str (S wNAMED), .str (S w)], .tuple [.str (S wNAMED), .str (S w)]], .tuple [.str (S [110,97,109,101,100]), .str (S w), .str (S w)]]
def okM1 (w sp : List Nat) : List PyData := [.tuple [.str (S [107,105,110,100]), .str (S w)], .tuple [.str (S [110,97,109,101,100]), .int 3], .tuple [.str (S [102,114,101,101]), .str (S [98,111,111,108])], .tuple [.str (S [116,111]), .str (S w), .tuple [.str (S wNAMED), .str (S w)]], .tuple [.str (S [116,111]), .tuple [.str (S wNAMED), .str (S w)], .int 3]]
def okM2 (w sp : List Nat) : List PyData := [.tuple [.str (S [118,97,114]), .str (S w), .tuple [.str (S wNAMED), .str (S w)]], .tuple [.str (S [110,97,109,101,100]), .str (S sp)], .tuple [.str (S [102,114,101,101]), .str (S sp)]]
def okM3 (w sp : List Nat) : List PyData := [.tuple [.str (S [116,111]), .tuple [.str (S wNAMED), .str (S w)], .tuple [.str (S [102,114,101,101]), .str (S sp)]]]

theorem bad_at {P : PyData → Prop} {ds : List PyData} (h : ∀ d ∈ ds, P d) {i : Nat} (hi : i < ds.length) : ∃ d, ds[i]? = some d ∧ P d := ⟨ds[i], List.getElem?_eq_getElem hi, h _ (List.getElem_mem hi)⟩
theorem fm {P : PyData → Prop} {d : PyData} {ds : List PyData} (h : P d) (k : ∀ d ∈ ds, P d) : ∀ d' ∈ d :: ds, P d' := List.forall_mem_cons.mpr ⟨h, k⟩
theorem fn0 {P : PyData → Prop} : ∀ d ∈ ([] : List PyData), P d := fun _ h => by cases h
theorem fap {P : PyData → Prop} {ds es : List PyData} (h : ∀ d ∈ ds, P d) (k : ∀ d ∈ es, P d) : ∀ d ∈ ds ++ es, P d := fun d hd => (List.mem_append.mp hd).elim (h d) (k d)
theorem nS {z : PySem.Str} : BadK (.str z) := .leaf (.notT (by show "str" ≠ "tuple"; decide))
theorem nn {d : PyData} (h : tyOf d ≠ "tuple" := by decide) : BadK d := .leaf (.notT h)
theorem kp_name {s w : List Nat} (h : s = wNAMED ∨ s = wFREE) (hn : isName w = false) (hb : s = wNAMED → w ≠ wBOOL) (hc : Cok w) (hl : w.length ≤ 1000) : BadK (.tuple [.str (S s), .str (S w)]) := .leaf (by
  have := KP.name h hc hl
  rw [if_neg (by rw [hn, Bool.or_false, decide_eq_true_eq]; exact fun z => hb z.1 z.2)] at this
  exact this)
theorem spoilt_bad {sp : List Nat} (h : sp ∈ spoilts) : isName sp = false ∧ sp ≠ wBOOL ∧ Cok sp ∧ sp.length ≤ 1000 := by
  have : ∀ sp ∈ spoilts, isName sp = false ∧ sp ≠ wBOOL ∧ (∀ c ∈ sp, c < 256) ∧ sp.length ≤ 1000 := by decide
  exact this sp h
theorem okM_bad {w sp : List Nat} (hw : isName w = true) (h : sp ∈ spoilts) : ∀ d ∈ (okM0 w sp ++ okM1 w sp ++ okM2 w sp ++ okM3 w sp), BadK d := by
  obtain ⟨h1, h2, h3, h4⟩ := spoilt_bad h
  have vs : VKd (.tuple [.str (S wNAMED), .str (S w)]) 1 := Kd.vk (.nm w) (.inl hw)
  have bs : ∀ {s : List Nat}, (s = wNAMED ∨ s = wFREE) → BadK (.tuple [.str (S s), .str (S sp)]) := fun z => kp_name z h1 (fun _ => h2) h3 h4
  refine fap (fap (fap ?_ ?_) ?_) ?_
  · exact fm (.leaf (.len (by decide) (by decide))) (fm nS (fm nn (fm (.leaf (.len (by decide) (by decide))) (fm (.leaf (.two _ (by decide) (by decide))) (fm (.leaf (.len (by simp) (by simp))) (fm (.leaf (.three _ _ (by decide))) fn0))))))
  · exact fm (.leaf (.two _ (by decide) (by decide))) (fm (.leaf (.odd (.inl rfl) (by decide) ⟨rfl, by decide⟩)) (fm (kp_name (.inr rfl) (by decide) (fun z => absurd z (by decide)) cokBool (by decide)) (fm (.l nS vs) (fm (.r vs nn) fn0))))
  · exact fm (.leaf (.three _ _ (by decide))) (fm (bs (.inl rfl)) (fm (bs (.inr rfl)) fn0))
  · exact fm (.r vs (bs (.inr rfl))) fn0
def sp_law_odd_kind : Sp := sp2 fun x y H Q _ => ∃ (a p : Addr), x = .ref a ∧ y = .ref p ∧ Pot a H ∧ NmL H p ∧ ∀ v H' d, BadK d → TD H' v d → Pot a H' → Kb a H H' → Q v H'
theorem ok_law_odd_kind (T : Txt w K mg) {fd : FuncData} (F : Fn_law_odd_kind K fd) (hm : mg "_law_odd_kind" = some (.ref (He.ga K "_law_odd_kind"))) (c_law_take : CalX P w K mg base CX0 1 "_law_take" sp_law_take) : CalX P w K mg base CX0 2 "_law_odd_kind" sp_law_odd_kind := by
  refine calx0 (k := 1) F hm sc_law_odd_kind (b_law_odd_kind F) (fun _ _ _ _ h => sp2_len h) (fun cdv A outer s H vs Q E hr h => ?_)
  obtain ⟨x0, x1, rfl, h⟩ := h
  refine ⟨_, (pss_cons (ps_set (i := 2) sc_law_odd_kind.nd rfl (Or.inl rfl) (pe_ix ix_list (pv 1) pe_int (fun _ _ => rfl)))
    (pss_cons (ps_set (i := 3) sc_law_odd_kind.nd rfl (Or.inl rfl) (pe_tup (pa_cons pe_str (pa_cons (pv 2) pa_nil))))
    (pss_cons (ps_set (i := 4) sc_law_odd_kind.nd rfl (Or.inl rfl) (pe_lst (pa_cons pe_str (pa_cons pe_str (pa_cons pe_str (pa_cons pe_str (pa_cons pe_str (pa_cons pe_str (pa_cons pe_str (pa_cons pe_str (pa_cons pe_str (pa_cons pe_str (pa_cons pe_str (pa_cons pe_str pa_nil))))))))))))))
    (pss_cons (ps_set (i := 5) sc_law_odd_kind.nd rfl (Or.inl rfl) (pe_ix ix_list (pv 4) (pe_cx c_law_take hr (by decide) rfl pass0 (pa_cons (pv 0) (pa_cons pe_int pa_nil))) (fun _ _ => rfl)))
    (pss_cons (ps_set (i := 6) sc_law_odd_kind.nd rfl (Or.inl rfl) (pe_lst (pa_cons (pe_tup pa_nil) (pa_cons (pv 2) (pa_cons pe_int (pa_cons (pe_tup (pa_cons pe_str pa_nil)) (pa_cons (pe_tup (pa_cons pe_str (pa_cons (pv 3) pa_nil))) (pa_cons (pe_tup (pa_cons pe_str (pa_cons (pv 3) (pa_cons (pv 3) (pa_cons (pv 3) pa_nil))))) (pa_cons (pe_tup (pa_cons pe_str (pa_cons (pv 2) (pa_cons (pv 2) pa_nil)))) pa_nil)))))))))
    (pss_cons (ps_set (i := 6) sc_law_odd_kind.nd rfl (Or.inl rfl) (pe_op op_cat (pv 6) (pe_lst (pa_cons (pe_tup (pa_cons pe_str (pa_cons (pv 2) pa_nil))) (pa_cons (pe_tup (pa_cons pe_str (pa_cons pe_int pa_nil))) (pa_cons (pe_tup (pa_cons pe_str (pa_cons pe_str pa_nil))) (pa_cons (pe_tup (pa_cons pe_str (pa_cons (pv 2) (pa_cons (pv 3) pa_nil)))) (pa_cons (pe_tup (pa_cons pe_str (pa_cons (pv 3) (pa_cons pe_int pa_nil)))) pa_nil))))))))
    (pss_cons (ps_set (i := 6) sc_law_odd_kind.nd rfl (Or.inl rfl) (pe_op op_cat (pv 6) (pe_lst (pa_cons (pe_tup (pa_cons pe_str (pa_cons (pv 2) (pa_cons (pv 3) pa_nil)))) (pa_cons (pe_tup (pa_cons pe_str (pa_cons (pv 5) pa_nil))) (pa_cons (pe_tup (pa_cons pe_str (pa_cons (pv 5) pa_nil))) pa_nil))))))
    (pss_cons (ps_set (i := 6) sc_law_odd_kind.nd rfl (Or.inl rfl) (pe_op op_cat (pv 6) (pe_lst (pa_cons (pe_tup (pa_cons pe_str (pa_cons (pv 3) (pa_cons (pe_tup (pa_cons pe_str (pa_cons (pv 5) pa_nil))) pa_nil)))) pa_nil))))
    (pss_one (ps_ret (pe_ix ix_list (pv 6) (pe_cx c_law_take hr (by decide) rfl pass0 (pa_cons (pv 0) (pa_cons pe_int pa_nil))) (fun _ _ => rfl)))))))))))), ?_⟩
  rw [show start ["pot", "words", "word", "small", "bad", "spoilt", "menu"] [x0, x1] = [some x0, some x1, none, none, none, none, none] from rfl]
  have ec0 : Str.ofString "named" = S [110,97,109,101,100] := S_ofs (by decide +kernel)
  have ec1 : Str.ofString "" = S [] := S_ofs (by decide +kernel)
  have ec2 : Str.ofString "all" = S [97,108,108] := S_ofs (by decide +kernel)
  have ec3 : Str.ofString "some" = S [115,111,109,101] := S_ofs (by decide +kernel)
  have ec4 : Str.ofString "lam" = S [108,97,109] := S_ofs (by decide +kernel)
  have ec5 : Str.ofString "true" = S [116,114,117,101] := S_ofs (by decide +kernel)
  have ec6 : Str.ofString "false" = S [102,97,108,115,101] := S_ofs (by decide +kernel)
  have ec7 : Str.ofString "Name" = S [78,97,109,101] := S_ofs (by decide +kernel)
  have ec8 : Str.ofString "1a" = S [49,97] := S_ofs (by decide +kernel)
  have ec9 : Str.ofString "_a" = S [95,97] := S_ofs (by decide +kernel)
  have ec10 : Str.ofString "a b" = S [97,32,98] := S_ofs (by decide +kernel)
  have ec11 : Str.ofString "a\n" = S [97,10] := S_ofs (by decide +kernel)
  have ec12 : Str.ofString "abcdefghijklmnopq" = S [97,98,99,100,101,102,103,104,105,106,107,108,109,110,111,112,113] := S_ofs (by decide +kernel)
  have ec13 : Str.ofString "to" = S [116,111] := S_ofs (by decide +kernel)
  have ec14 : Str.ofString "kind" = S [107,105,110,100] := S_ofs (by decide +kernel)
  have ec15 : Str.ofString "free" = S [102,114,101,101] := S_ofs (by decide +kernel)
  have ec16 : Str.ofString "bool" = S [98,111,111,108] := S_ofs (by decide +kernel)
  have ec17 : Str.ofString "var" = S [118,97,114] := S_ofs (by decide +kernel)
  rw [ec0, ec1, ec2, ec3, ec4, ec5, ec6, ec7, ec8, ec9, ec10, ec11, ec12, ec13, ec14, ec15, ec16, ec17]
  obtain ⟨a, p, rfl, rfl, hP, hW, hQ⟩ := h
  have hpa : p ≠ a := hW.ne hP
  try dsimp only [cxOf]
  walk_at "v"
  refine hW.ix (i := 0) (by omega) (fun w nw => ?_)
  walk_at "v"
  have tw : TD H (.str (S w)) (.str (S w)) := .str _
  refine ev_go (d := .tuple [.str (S wNAMED), .str (S w)]) (by walk_at "d") (fun x1 H1 s1 t1 => ?_)
  walk_at "v"
  refine ev_lst (ds := spoilts.map fun w => PyData.str (S w)) (by walk_at "d") (fun l2 H2 hl2 s2 d2 => ?_)
  walk_at "v"
  have P2 := (hP.same s1).same s2
  refine ⟨_, _, rfl, a, 12, rfl, rfl, by omega, by omega, P2, fun v3 H3 hv3 P3 k3 => ?_⟩
  walk_at "v"
  have hla2 : l2 ≠ a := Pot.ne (hP.same s1) hl2
  have d3 := DLkb d2 P2 k3 hla2
  have hv3' : v3 < spoilts.length := hv3
  refine l_ix d3 (d := .str (S spoilts[v3])) (by rw [List.getElem?_map, List.getElem?_eq_getElem hv3']; rfl) (fun x4 tx4 => ?_)
  have hsp := List.getElem_mem hv3'
  generalize spoilts[v3] = sp at tx4 hsp
  walk_at "v"
  have tw_3 : TD H3 (.str (S w)) (.str (S w)) := .str _
  have t1_3 := (t1.tm (Tm.same s2)).tm (Kb.pot_tm P2 k3)
  refine ev_lst (ds := okM0 w sp) (by walk_at "d") (fun m5 H5 hm5 s5 d5 => ?_)
  walk_at "v"
  have tw_5 := tw_3.tm (Tm.same s5)
  have t1_5 := t1_3.tm (Tm.same s5)
  have t4_5 := tx4.tm (Tm.same s5)
  refine ev_lst (ds := okM1 w sp) (by walk_at "d") (fun l6a H6a hl6a s6a d6a => ?_)
  walk_at "v"
  refine l_cat (d5.same s6a) d6a (fun l6 H6 hl6 s6b d6 => ?_) (Nat.le_of_ble_eq_true rfl)
  walk_at "v"
  have s6 := s6a.tr s6b
  have tw_6 := tw_5.tm (Tm.same s6)
  have t1_6 := t1_5.tm (Tm.same s6)
  have t4_6 := t4_5.tm (Tm.same s6)
  refine ev_lst (ds := okM2 w sp) (by walk_at "d") (fun l7a H7a hl7a s7a d7a => ?_)
  walk_at "v"
  refine l_cat (d6.same s7a) d7a (fun l7 H7 hl7 s7b d7 => ?_) (Nat.le_of_ble_eq_true rfl)
  walk_at "v"
  have s7 := s7a.tr s7b
  have tw_7 := tw_6.tm (Tm.same s7)
  have t1_7 := t1_6.tm (Tm.same s7)
  have t4_7 := t4_6.tm (Tm.same s7)
  refine ev_lst (ds := okM3 w sp) (by walk_at "d") (fun l8a H8a hl8a s8a d8a => ?_)
  walk_at "v"
  refine l_cat (d7.same s8a) d8a (fun l8 H8 hl8 s8b d8 => ?_) (Nat.le_of_ble_eq_true rfl)
  walk_at "v"
  have s8 := s8a.tr s8b
  have tw_8 := tw_7.tm (Tm.same s8)
  have t1_8 := t1_7.tm (Tm.same s8)
  have t4_8 := t4_7.tm (Tm.same s8)
  have s38 := ((s5.tr s6).tr s7).tr s8
  have P8 := P3.same s38
  refine ⟨_, _, rfl, a, 16, rfl, rfl, by omega, by omega, P8, fun v9 H9 hv9 P9 k9 => ?_⟩
  walk_at "v"
  have k09 : Kb a H H8 := ((Kb.same (s1.tr s2)).tr k3).then s38
  have hla8 : l8 ≠ a := Pot.ne (P3.same (((s5.tr s6).tr s7).tr s8a)) hl8
  obtain ⟨d, e, hd⟩ := bad_at (okM_bad (sp := sp) nw hsp) (show v9 < _ from hv9)
  refine l_ix (DLkb d8 P8 k9 hla8) e (fun x tx => ?_)
  exact hQ x H9 d hd tx P9 (k09.tr k9)
end
end K02

namespace K02
open PySem PySem.Spec PyProof.Rows L2 SX
local macro_rules | `(tactic| walk_at "w1") => `(tactic| (first
  | with_reducible refine w_seq ?_ | with_reducible refine w_asgN ?_ | with_reducible refine w_c ?_
  | ((with_reducible refine' w_var ?wv ?_); (case wv => exact rfl))
  | with_reducible refine w_op ?_ | with_reducible refine w_un ?_ | with_reducible refine w_next ?_ | with_reducible refine w_brk ?_ | with_reducible refine w_cnt ?_
  | with_reducible refine w_ifS ?_ | with_reducible refine w_if ?_ | with_reducible refine w_test ?_ | with_reducible refine w_tB ?_ | with_reducible refine w_bl ?_ | with_reducible refine w_blI ?_
  | with_reducible refine w_and ?_ | with_reducible refine w_or ?_ | with_reducible refine w_not ?_ | with_reducible refine w_andV ?_ | with_reducible refine w_orV ?_ | with_reducible refine w_notV ?_
  | with_reducible refine w_nil ?_ | with_reducible refine w_cons ?_ | with_reducible refine w_cb ?_ | with_reducible refine w_call ?_ | with_reducible refine w_callS ?_ | with_reducible refine w_chain ?_
  | with_reducible refine w_tupN ?_ | with_reducible refine w_lstN ?_ | with_reducible refine w_sl ?_ | with_reducible refine w_noPart ?_ | with_reducible refine w_part ?_ | with_reducible refine w_partI ?_
  | with_reducible refine w_ret ?_ | with_reducible refine w_retN ?_ | with_reducible refine w_drop ?_ | with_reducible refine w_asg ?_ | with_reducible refine w_gSub ?_
  | ((with_reducible refine' w_aug ?wv ?_); (case wv => exact rfl)) | with_reducible refine w_ipI ?_
  | with_reducible refine w_addI ?_ | with_reducible refine w_subI ?_ | with_reducible refine w_ltI ?_ | with_reducible refine w_leI ?_ | with_reducible refine w_gtI ?_ | with_reducible refine w_geI ?_
  | with_reducible refine w_eqI ?_ | with_reducible refine w_neI ?_ | with_reducible refine w_eqT ?_ | with_reducible refine w_neT ?_ | with_reducible refine w_inS ?_ | with_reducible refine w_ninS ?_
  | with_reducible refine w_absI ?_ | with_reducible refine w_intI ?_ | with_reducible refine w_maxI ?_ | with_reducible refine w_minI ?_
  | with_reducible refine w_for ?_ | with_reducible refine w_iR1 ?_ | with_reducible refine w_iR2 ?_ | with_reducible refine w_iStr ?_ | with_reducible refine w_strI ?_ | with_reducible refine w_iList ?_ | with_reducible refine w_iTup ?_
  | with_reducible refine w_bm ?_ | with_reducible refine w_bm0 ?_ | with_reducible refine w_t ?_ | with_reducible refine w_f ?_ | with_reducible refine w_nt ?_ | with_reducible refine w_nx ?_ | with_reducible refine w_rt ?_ | with_reducible refine w_bk ?_ | with_reducible refine w_ct ?_ | with_reducible refine w_nf ?_ | with_reducible refine w_lc ?_ | with_reducible refine w_yes ?_ | with_reducible refine w_neg ?_ | with_reducible refine w_intB ?_ | with_reducible refine w_fld ?_ | with_reducible refine w_setf ?_ | with_reducible refine w_faug ?_ | with_reducible refine w_meth ?_ | with_reducible refine w_bmS ?_ | with_reducible refine w_start ?_ | with_reducible refine w_revL ?_ | with_reducible refine w_iR3 ?_))
local macro_rules | `(tactic| walk_at "w") => `(tactic| (repeat (first | walk_at "w1" | dsimp (config := { proj := false }) only [List.set_cons_zero, List.set_cons_succ])))
section
variable {w : World} {K : PySem.W.Frag} {mg : Str → Option Value} {base : Heap}
local macro_rules | `(tactic| walk_at "v1") => `(tactic| (first
  | with_reducible refine w_seq ?_ | with_reducible refine w_asgN ?_ | with_reducible refine w_c ?_
  | ((with_reducible refine' w_var ?wv ?_); (case wv => exact rfl))
  | with_reducible refine w_op ?_ | with_reducible refine w_un ?_ | with_reducible refine w_next ?_ | with_reducible refine w_brk ?_ | with_reducible refine w_cnt ?_
  | with_reducible refine w_ifS ?_ | with_reducible refine w_if ?_ | with_reducible refine w_test ?_ | with_reducible refine w_tB ?_ | with_reducible refine w_bl ?_ | with_reducible refine w_blI ?_
  | with_reducible refine w_and ?_ | with_reducible refine w_or ?_ | with_reducible refine w_not ?_ | with_reducible refine w_andV ?_ | with_reducible refine w_orV ?_ | with_reducible refine w_notV ?_
  | with_reducible refine w_nil ?_ | with_reducible refine w_cons ?_ | with_reducible refine w_cb ?_ | with_reducible refine w_call ?_ | with_reducible refine w_callS ?_ | with_reducible refine w_chain ?_
  | with_reducible refine w_sl ?_ | with_reducible refine w_noPart ?_ | with_reducible refine w_part ?_ | with_reducible refine w_partI ?_
  | with_reducible refine w_ret ?_ | with_reducible refine w_retN ?_ | with_reducible refine w_drop ?_ | with_reducible refine w_asg ?_ | with_reducible refine w_gSub ?_
  | ((with_reducible refine' w_aug ?wv ?_); (case wv => exact rfl)) | with_reducible refine w_ipI ?_
  | with_reducible refine w_addI ?_ | with_reducible refine w_subI ?_ | with_reducible refine w_ltI ?_ | with_reducible refine w_leI ?_ | with_reducible refine w_gtI ?_ | with_reducible refine w_geI ?_
  | with_reducible refine w_eqI ?_ | with_reducible refine w_neI ?_ | with_reducible refine w_eqT ?_ | with_reducible refine w_neT ?_ | with_reducible refine w_inS ?_ | with_reducible refine w_ninS ?_
  | with_reducible refine w_absI ?_ | with_reducible refine w_intI ?_ | with_reducible refine w_maxI ?_ | with_reducible refine w_minI ?_
  | with_reducible refine w_for ?_ | with_reducible refine w_iR1 ?_ | with_reducible refine w_iR2 ?_ | with_reducible refine w_iStr ?_ | with_reducible refine w_strI ?_ | with_reducible refine w_iList ?_ | with_reducible refine w_iTup ?_
  | with_reducible refine w_bm ?_ | with_reducible refine w_bm0 ?_ | with_reducible refine w_t ?_ | with_reducible refine w_f ?_ | with_reducible refine w_nt ?_ | with_reducible refine w_nx ?_ | with_reducible refine w_rt ?_ | with_reducible refine w_bk ?_ | with_reducible refine w_ct ?_ | with_reducible refine w_nf ?_ | with_reducible refine w_lc ?_ | with_reducible refine w_yes ?_ | with_reducible refine w_neg ?_ | with_reducible refine w_intB ?_ | with_reducible refine w_fld ?_ | with_reducible refine w_setf ?_ | with_reducible refine w_faug ?_ | with_reducible refine w_meth ?_ | with_reducible refine w_bmS ?_ | with_reducible refine w_start ?_ | with_reducible refine w_revL ?_ | with_reducible refine w_iR3 ?_))
local macro_rules | `(tactic| walk_at "v") => `(tactic| (repeat (first | walk_at "v1" | dsimp (config := { proj := false }) only [List.set_cons_zero, List.set_cons_succ])))
local macro_rules | `(tactic| walk_at "d") => `(tactic| (repeat (first | exact eva_nil | refine eva_cons ?_ ?_ | exact ev_str | exact ev_int | exact ev_neg | refine ev_tup ?_ | (refine ev_var rfl ?_; assumption))))

def odM0 (w w1 : List Nat) : List PyData := [.tuple [], .str (S w), .int 3, .tuple [.str (S wNAMED), .str (S w)], .tuple [.str (S [102,114,101,101]), .str (S w)], .tuple [.str (S [97,112,112])], .tuple [.str (S [97,112,112]), .tuple [.str (S wVAR), .str (S w1), .tuple [.str (S wNAMED), .str (S w)]]], .tuple [.str (S [97,112,112]), .tuple [.str (S wVAR), .str (S w1), .tuple [.str (S wNAMED), .str (S w)]], .tuple [.str (S wVAR), .str (S w1), .tuple [.str (S wNAMED), .str (S w)]], .tuple [.str (S wVAR), .str (S w1), .tuple [.str (S wNAMED), .str (S w)]]]]
def odM1 (w w1 : List Nat) : List PyData := [.tuple [.str (S [108,97,109]), .tuple [.str (S wNAMED), .str (S w)]]]
def odM2 (w w1 : List Nat) : List PyData := [.tuple [.str (S [108,97,109]), .tuple [.str (S wVAR), .str (S w1), .tuple [.str (S wNAMED), .str (S w)]]], .tuple [.str (S [108,97,109]), .tuple [.str (S wVAR), .str (S w1), .tuple [.str (S wNAMED), .str (S w)]], .tuple [.str (S wNAMED), .str (S w)]], .tuple [.str (S [108,97,109]), .tuple [.str (S wNAMED), .str (S w)], .tuple [.str (S wVAR), .str (S w1), .tuple [.str (S wNAMED), .str (S w)]], .tuple [.str (S wVAR), .str (S w1), .tuple [.str (S wNAMED), .str (S w)]]], .tuple [.str (S [108,97,109]), .str (S w), .tuple [.str (S wNAMED), .str (S w)], .tuple [.str (S wVAR), .str (S w1), .tuple [.str (S wNAMED), .str (S w)]]]]
def odM3 (w w1 : List Nat) : List PyData := [.tuple [.str (S [118,97,114]), .str (S w)], .tuple [.str (S [118,97,114]), .tuple [.str (S wNAMED), .str (S w)], .str (S w)], .tuple [.str (S [118,97,114]), .str (S w), .tuple [.str (S wNAMED), .str (S w)], .tuple [.str (S wNAMED), .str (S w)]], .tuple [.str (S [99,111,110,115,116]), .str (S w)]]
def odM4 (w w1 : List Nat) : List PyData := [.tuple [.str (S [99,111,110,115,116]), .tuple [.str (S wNAMED), .str (S w)], .str (S w)], .tuple [.str (S [99,111,110,115,116]), .str (S w), .tuple [.str (S wNAMED), .str (S w)], .tuple [.str (S wNAMED), .str (S w)]], .tuple [.str (S [110,97,109,101]), .str (S w)]]
def odM5 (w w1 : List Nat) : List PyData := [.tuple [.str (S [86,97,114]), .str (S w), .tuple [.str (S wNAMED), .str (S w)]]]
def odM6 (w w1 : List Nat) : List PyData := [.tuple [.str (S [98,111,117,110,100])], .tuple [.str (S [98,111,117,110,100]), .str (S [48])], .tuple [.str (S [98,111,117,110,100]), .tuple [.int 0]], .tuple [.str (S [98,111,117,110,100]), .int 0, .int 0], .tuple [.str (S [98,111,117,110,100]), .int (-1)]]
def odM7 (w w1 : List Nat) : List PyData := [.tuple [.str (S [98,111,117,110,100]), .int 999999999], .tuple [.str (S [110,97,109,101,100]), .str (S w), .tuple [.str (S wNAMED), .str (S w)]]]
def onM0 : List PyData := [.str (S []), .str (S [108,97,109]), .str (S [98,111,111,108]), .str (S [78,97,109,101]), .str (S [49,97]), .str (S [95,97]), .str (S [97,32,98]), .str (S [97,45]), .str (S [97,10]), .str (S [97,98,99,100,101,102,103,104,105,106,107,108,109,110,111,112,113]), .int 5, .tuple [.str (S [97])]]
def onM1 : List PyData := [.str (S [97,108,108]), .str (S [115,111,109,101]), .str (S [116,114,117,101]), .str (S [102,97,108,115,101]), .str (S [61]), .str (S [126]), .str (S [38]), .str (S [124]), .str (S [61,62])]
def onM2 : List PyData := [.str (S [61,61]), .str (S [45,62]), .str (S [124,45]), .str (S [126,126]), .str (S [38,38]), .str (S [61,32]), .str (S [65,76,76])]

/-- no leaf, at no depth -/
def LB (d : PyData) : Prop := ∀ l, l ≤ 100000 → LF d l false
theorem lS {z : PySem.Str} : LB (.str z) := fun l _ => .notT (by show "str" ≠ "tuple"; decide)
theorem lI {i : Int} : LB (.int i) := fun l _ => .notT (by show "int" ≠ "tuple"; decide)
theorem l2S {s : List Nat} {z : PySem.Str} (h : s ≠ wBOUND := by decide) : LB (.tuple [.str (S s), .str z]) := fun l _ => .two h (by show "str" ≠ "int"; decide) (by show "str" ≠ "bool"; decide)
theorem l2T {s : List Nat} {ds : List PyData} (h : s ≠ wBOUND := by decide) : LB (.tuple [.str (S s), .tuple ds]) := fun l _ => .two h (by show "tuple" ≠ "int"; decide) (by show "tuple" ≠ "bool"; decide)
theorem lL0 : LB (.tuple []) := fun l _ => .len (by decide) (by decide)
theorem lL1 {a : PyData} : LB (.tuple [a]) := fun l _ => .len (by simp) (by simp)
theorem lL4 {a b c d : PyData} : LB (.tuple [a, b, c, d]) := fun l _ => .len (by simp) (by simp)
theorem l3 {s : List Nat} {x y : PyData} (h1 : s ≠ wVAR := by decide) (h2 : s ≠ wCONST := by decide) (h3 : s ≠ wLAM := by decide) (h4 : s ≠ wAPP := by decide) : LB (.tuple [.str (S s), x, y]) := fun l _ => .three h1 h2 h3 h4
theorem od0 {w w1 : List Nat} : ∀ d ∈ odM0 w w1, LB d :=
  fm lL0 (fm lS (fm lI (fm l2S (fm l2S (fm lL1 (fm l2T (fm lL4 fn0)))))))
theorem od1 {w w1 : List Nat} : ∀ d ∈ odM1 w w1, LB d := fm l2T fn0
theorem od2 {w w1 : List Nat} : ∀ d ∈ odM2 w w1, LB d := fm l2T (fm (fun l _ => .lam (.bad (.leaf (.three _ _ (by decide))))) (fm lL4 (fm lL4 fn0)))
theorem od3 {w w1 : List Nat} : ∀ d ∈ odM3 w w1, LB d := fm l2S (fm (fun l _ => .varO (by show "tuple" ≠ "str"; decide)) (fm lL4 (fm l2S fn0)))
theorem od4 {w w1 : List Nat} (hw : isName w = true) : ∀ d ∈ odM4 w w1, LB d := fm (fun l _ => .cstO (by show "tuple" ≠ "str"; decide) (Kd.Sz (k := .nm w) (.inl hw) (by show 1 ≤ 100; omega))) (fm lL4 (fm l2S fn0))
theorem od5 {w w1 : List Nat} : ∀ d ∈ odM5 w w1, LB d := fm l3 fn0
theorem od6 {w w1 : List Nat} : ∀ d ∈ odM6 w w1, LB d := fm lL1 (fm (fun l _ => .bndO (by show "str" ≠ "int"; decide) (by show "str" ≠ "bool"; decide)) (fm (fun l _ => .bndO (by show "tuple" ≠ "int"; decide) (by show "tuple" ≠ "bool"; decide)) (fm l3 (fm (fun l _ => by
  have := LF.bnd (i := -1) (l := l)
  rwa [decide_eq_false (by omega)] at this) fn0))))
theorem od7 {w w1 : List Nat} : ∀ d ∈ odM7 w w1, LB d := fm (fun l hl => by
  have := LF.bnd (i := 999999999) (l := l)
  rwa [decide_eq_false (by omega)] at this) (fm l3 fn0)
def sp_law_odd : Sp := sp2 fun x y H Q _ => ∃ (a p : Addr), x = .ref a ∧ y = .ref p ∧ Pot a H ∧ NmL H p ∧ ∀ v H' d, LB d → TD H' v d → Pot a H' → Kb a H H' → Q v H'
theorem ok_law_odd (T : Txt w K mg) {fd : FuncData} (F : Fn_law_odd K fd) (hm : mg "_law_odd" = some (.ref (He.ga K "_law_odd"))) (c_law_take : CalX P w K mg base CX0 1 "_law_take" sp_law_take) : CalX P w K mg base CX0 2 "_law_odd" sp_law_odd := by
  refine calx0 (k := 1) F hm sc_law_odd (b_law_odd F) (fun _ _ _ _ h => sp2_len h) (fun cdv A outer s H vs Q E hr h => ?_)
  obtain ⟨x0, x1, rfl, h⟩ := h
  refine ⟨_, (pss_cons (ps_set (i := 2) sc_law_odd.nd rfl (Or.inl rfl) (pe_ix ix_list (pv 1) pe_int (fun _ _ => rfl)))
    (pss_cons (ps_set (i := 3) sc_law_odd.nd rfl (Or.inl rfl) (pe_tup (pa_cons pe_str (pa_cons (pv 2) pa_nil))))
    (pss_cons (ps_set (i := 4) sc_law_odd.nd rfl (Or.inl rfl) (pe_tup (pa_cons pe_str (pa_cons (pe_ix ix_list (pv 1) pe_int (fun _ _ => rfl)) (pa_cons (pv 3) pa_nil)))))
    (pss_cons (ps_set (i := 5) sc_law_odd.nd rfl (Or.inl rfl) (pe_lst (pa_cons (pe_tup pa_nil) (pa_cons (pv 2) (pa_cons pe_int (pa_cons (pv 3) (pa_cons (pe_tup (pa_cons pe_str (pa_cons (pv 2) pa_nil))) (pa_cons (pe_tup (pa_cons pe_str pa_nil)) (pa_cons (pe_tup (pa_cons pe_str (pa_cons (pv 4) pa_nil))) (pa_cons (pe_tup (pa_cons pe_str (pa_cons (pv 4) (pa_cons (pv 4) (pa_cons (pv 4) pa_nil))))) pa_nil))))))))))
    (pss_cons (ps_set (i := 5) sc_law_odd.nd rfl (Or.inl rfl) (pe_op op_cat (pv 5) (pe_lst (pa_cons (pe_tup (pa_cons pe_str (pa_cons (pv 3) pa_nil))) pa_nil))))
    (pss_cons (ps_set (i := 5) sc_law_odd.nd rfl (Or.inl rfl) (pe_op op_cat (pv 5) (pe_lst (pa_cons (pe_tup (pa_cons pe_str (pa_cons (pv 4) pa_nil))) (pa_cons (pe_tup (pa_cons pe_str (pa_cons (pv 4) (pa_cons (pv 3) pa_nil)))) (pa_cons (pe_tup (pa_cons pe_str (pa_cons (pv 3) (pa_cons (pv 4) (pa_cons (pv 4) pa_nil))))) (pa_cons (pe_tup (pa_cons pe_str (pa_cons (pv 2) (pa_cons (pv 3) (pa_cons (pv 4) pa_nil))))) pa_nil)))))))
    (pss_cons (ps_set (i := 5) sc_law_odd.nd rfl (Or.inl rfl) (pe_op op_cat (pv 5) (pe_lst (pa_cons (pe_tup (pa_cons pe_str (pa_cons (pv 2) pa_nil))) (pa_cons (pe_tup (pa_cons pe_str (pa_cons (pv 3) (pa_cons (pv 2) pa_nil)))) (pa_cons (pe_tup (pa_cons pe_str (pa_cons (pv 2) (pa_cons (pv 3) (pa_cons (pv 3) pa_nil))))) (pa_cons (pe_tup (pa_cons pe_str (pa_cons (pv 2) pa_nil))) pa_nil)))))))
    (pss_cons (ps_set (i := 5) sc_law_odd.nd rfl (Or.inl rfl) (pe_op op_cat (pv 5) (pe_lst (pa_cons (pe_tup (pa_cons pe_str (pa_cons (pv 3) (pa_cons (pv 2) pa_nil)))) (pa_cons (pe_tup (pa_cons pe_str (pa_cons (pv 2) (pa_cons (pv 3) (pa_cons (pv 3) pa_nil))))) (pa_cons (pe_tup (pa_cons pe_str (pa_cons (pv 2) pa_nil))) pa_nil))))))
    (pss_cons (ps_set (i := 5) sc_law_odd.nd rfl (Or.inl rfl) (pe_op op_cat (pv 5) (pe_lst (pa_cons (pe_tup (pa_cons pe_str (pa_cons (pv 2) (pa_cons (pv 3) pa_nil)))) pa_nil))))
    (pss_cons (ps_set (i := 5) sc_law_odd.nd rfl (Or.inl rfl) (pe_op op_cat (pv 5) (pe_lst (pa_cons (pe_tup (pa_cons pe_str pa_nil)) (pa_cons (pe_tup (pa_cons pe_str (pa_cons pe_str pa_nil))) (pa_cons (pe_tup (pa_cons pe_str (pa_cons (pe_tup (pa_cons pe_int pa_nil)) pa_nil))) (pa_cons (pe_tup (pa_cons pe_str (pa_cons pe_int (pa_cons pe_int pa_nil)))) (pa_cons (pe_tup (pa_cons pe_str (pa_cons (pe_un un_neg pe_int) pa_nil))) pa_nil))))))))
    (pss_cons (ps_set (i := 5) sc_law_odd.nd rfl (Or.inl rfl) (pe_op op_cat (pv 5) (pe_lst (pa_cons (pe_tup (pa_cons pe_str (pa_cons pe_int pa_nil))) (pa_cons (pe_tup (pa_cons pe_str (pa_cons (pv 2) (pa_cons (pv 3) pa_nil)))) pa_nil)))))
    (pss_one (ps_ret (pe_ix ix_list (pv 5) (pe_cx c_law_take hr (by decide) rfl pass0 (pa_cons (pv 0) (pa_cons pe_int pa_nil))) (fun _ _ => rfl))))))))))))))), ?_⟩
  rw [show start ["pot", "words", "word", "small", "tip", "menu"] [x0, x1] = [some x0, some x1, none, none, none, none] from rfl]
  have ec0 : Str.ofString "named" = S [110,97,109,101,100] := S_ofs (by decide +kernel)
  have ec1 : Str.ofString "var" = S [118,97,114] := S_ofs (by decide +kernel)
  have ec2 : Str.ofString "free" = S [102,114,101,101] := S_ofs (by decide +kernel)
  have ec3 : Str.ofString "app" = S [97,112,112] := S_ofs (by decide +kernel)
  have ec4 : Str.ofString "lam" = S [108,97,109] := S_ofs (by decide +kernel)
  have ec5 : Str.ofString "const" = S [99,111,110,115,116] := S_ofs (by decide +kernel)
  have ec6 : Str.ofString "name" = S [110,97,109,101] := S_ofs (by decide +kernel)
  have ec7 : Str.ofString "Var" = S [86,97,114] := S_ofs (by decide +kernel)
  have ec8 : Str.ofString "bound" = S [98,111,117,110,100] := S_ofs (by decide +kernel)
  have ec9 : Str.ofString "0" = S [48] := S_ofs (by decide +kernel)
  rw [ec0, ec1, ec2, ec3, ec4, ec5, ec6, ec7, ec8, ec9]
  obtain ⟨a, p, rfl, rfl, hP, hW, hQ⟩ := h
  have hpa : p ≠ a := hW.ne hP
  try dsimp only [cxOf]
  walk_at "v"
  refine hW.ix (i := 0) (by omega) (fun w nw => ?_)
  walk_at "v"
  have tw : TD H (.str (S w)) (.str (S w)) := .str _
  refine ev_go (d := .tuple [.str (S wNAMED), .str (S w)]) (by walk_at "d") (fun x1 H1 s1 t1 => ?_)
  walk_at "v"
  refine w_tupN ?_
  walk_at "v"
  refine (hW.same s1).ix (i := 1) (by omega) (fun w1 nw1 => ?_)
  walk_at "v"
  refine t_new (ds := [.str (S wVAR), .str (S w1), .tuple [.str (S wNAMED), .str (S w)]]) (.cons (.str _) (.cons (.str _) (.cons t1 .nil))) (fun p2 H2 hp2 s2 t2 => ?_)
  walk_at "v"
  have tw_2 : TD H2 (.str (S w)) (.str (S w)) := .str _
  have t1_2 := t1.tm (Tm.same s2)
  refine ev_lst (ds := odM0 w w1) (by walk_at "d") (fun m3 H3 hm3 s3 d3 => ?_)
  walk_at "v"
  have tw_3 := tw_2.tm (Tm.same s3)
  have t1_3 := t1_2.tm (Tm.same s3)
  have t2_3 := t2.tm (Tm.same s3)
  refine ev_lst (ds := odM1 w w1) (by walk_at "d") (fun l4a H4a hl4a s4a d4a => ?_)
  walk_at "v"
  refine l_cat (d3.same s4a) d4a (fun l4 H4 hl4 s4b d4 => ?_) (Nat.le_of_ble_eq_true rfl)
  walk_at "v"
  have s4 := s4a.tr s4b
  have tw_4 := tw_3.tm (Tm.same s4)
  have t1_4 := t1_3.tm (Tm.same s4)
  have t2_4 := t2_3.tm (Tm.same s4)
  refine ev_lst (ds := odM2 w w1) (by walk_at "d") (fun l5a H5a hl5a s5a d5a => ?_)
  walk_at "v"
  refine l_cat (d4.same s5a) d5a (fun l5 H5 hl5 s5b d5 => ?_) (Nat.le_of_ble_eq_true rfl)
  walk_at "v"
  have s5 := s5a.tr s5b
  have tw_5 := tw_4.tm (Tm.same s5)
  have t1_5 := t1_4.tm (Tm.same s5)
  have t2_5 := t2_4.tm (Tm.same s5)
  refine ev_lst (ds := odM3 w w1) (by walk_at "d") (fun l6a H6a hl6a s6a d6a => ?_)
  walk_at "v"
  refine l_cat (d5.same s6a) d6a (fun l6 H6 hl6 s6b d6 => ?_) (Nat.le_of_ble_eq_true rfl)
  walk_at "v"
  have s6 := s6a.tr s6b
  have tw_6 := tw_5.tm (Tm.same s6)
  have t1_6 := t1_5.tm (Tm.same s6)
  have t2_6 := t2_5.tm (Tm.same s6)
  refine ev_lst (ds := odM4 w w1) (by walk_at "d") (fun l7a H7a hl7a s7a d7a => ?_)
  walk_at "v"
  refine l_cat (d6.same s7a) d7a (fun l7 H7 hl7 s7b d7 => ?_) (Nat.le_of_ble_eq_true rfl)
  walk_at "v"
  have s7 := s7a.tr s7b
  have tw_7 := tw_6.tm (Tm.same s7)
  have t1_7 := t1_6.tm (Tm.same s7)
  have t2_7 := t2_6.tm (Tm.same s7)
  refine ev_lst (ds := odM5 w w1) (by walk_at "d") (fun l8a H8a hl8a s8a d8a => ?_)
  walk_at "v"
  refine l_cat (d7.same s8a) d8a (fun l8 H8 hl8 s8b d8 => ?_) (Nat.le_of_ble_eq_true rfl)
  walk_at "v"
  have s8 := s8a.tr s8b
  have tw_8 := tw_7.tm (Tm.same s8)
  have t1_8 := t1_7.tm (Tm.same s8)
  have t2_8 := t2_7.tm (Tm.same s8)
  refine ev_lst (ds := odM6 w w1) (by walk_at "d") (fun l9a H9a hl9a s9a d9a => ?_)
  walk_at "v"
  refine l_cat (d8.same s9a) d9a (fun l9 H9 hl9 s9b d9 => ?_) (Nat.le_of_ble_eq_true rfl)
  walk_at "v"
  have s9 := s9a.tr s9b
  have tw_9 := tw_8.tm (Tm.same s9)
  have t1_9 := t1_8.tm (Tm.same s9)
  have t2_9 := t2_8.tm (Tm.same s9)
  refine ev_lst (ds := odM7 w w1) (by walk_at "d") (fun l10a H10a hl10a s10a d10a => ?_)
  walk_at "v"
  refine l_cat (d9.same s10a) d10a (fun l10 H10 hl10 s10b d10 => ?_) (Nat.le_of_ble_eq_true rfl)
  walk_at "v"
  have s10 := s10a.tr s10b
  have tw_10 := tw_9.tm (Tm.same s10)
  have t1_10 := t1_9.tm (Tm.same s10)
  have t2_10 := t2_9.tm (Tm.same s10)
  have s310 := (((((s4.tr s5).tr s6).tr s7).tr s8).tr s9).tr s10
  have s010 := ((s1.tr s2).tr s3).tr s310
  have P10 := hP.same s010
  refine ⟨_, _, rfl, a, 28, rfl, rfl, by omega, by omega, P10, fun v11 H11 hv11 P11 k11 => ?_⟩
  walk_at "v"
  have hla : l10 ≠ a := Pot.ne (hP.same (((((((((s1.tr s2).tr s3).tr s4).tr s5).tr s6).tr s7).tr s8).tr s9).tr s10a)) hl10
  obtain ⟨d, e, hd⟩ := bad_at (fap (fap (fap (fap (fap (fap (fap od0 od1) od2) od3) (od4 nw)) od5) od6) (od7 (w := w) (w1 := w1))) (show v11 < _ from hv11)
  refine l_ix (DLkb d10 P10 k11 hla) e (fun x tx => ?_)
  exact hQ x H11 d hd tx P11 ((Kb.same s010).tr k11)

/-- no name of a variable, of a constant -/
def NV (d : PyData) : Prop := ∀ y, LB (.tuple [.str (S wVAR), d, y])
def NC (d : PyData) : Prop := ∀ y, LB (.tuple [.str (S wCONST), d, y])
def badW (w : List Nat) : Bool := decide (isName w = false ∧ w.length ≤ 1000)
def badC (w : List Nat) : Bool := decide (isName w = false ∧ w.length ≤ 1000 ∧ (∀ c ∈ w, c < 256) ∧ w ∉ LOGIC)
theorem nv {w : List Nat} (h : badW w = true) : NV (.str (S w)) := fun y l _ => by have := of_decide_eq_true h; exact .varN this.2 this.1
theorem nvI {i : Int} : NV (.int i) := fun y l _ => .varO (by show "int" ≠ "str"; decide)
theorem nvT {ds : List PyData} : NV (.tuple ds) := fun y l _ => .varO (by show "tuple" ≠ "str"; decide)
theorem nc {w : List Nat} (h : badC w = true) : NC (.str (S w)) := fun y l _ => by have := of_decide_eq_true h; exact .cstN this.2.1 this.2.2.1 this.1 this.2.2.2
theorem ncI {i : Int} : NC (.int i) := fun y l _ => .cstO (by show "int" ≠ "str"; decide) ⟨rfl, Nat.zero_le _⟩
theorem on0v : ∀ d ∈ onM0, NV d := (fm (nv (by decide)) (fm (nv (by decide)) (fm (nv (by decide)) (fm (nv (by decide)) (fm (nv (by decide)) (fm (nv (by decide)) (fm (nv (by decide)) (fm (nv (by decide)) (fm (nv (by decide)) (fm (nv (by decide)) (fm nvI (fm nvT fn0))))))))))))
theorem on1v : ∀ d ∈ onM1, NV d := (fm (nv (by decide)) (fm (nv (by decide)) (fm (nv (by decide)) (fm (nv (by decide)) (fm (nv (by decide)) (fm (nv (by decide)) (fm (nv (by decide)) (fm (nv (by decide)) (fm (nv (by decide)) fn0)))))))))
theorem on0c : ∀ d ∈ onM0, NC d := (fm (nc (by decide)) (fm (nc (by decide)) (fm (nc (by decide)) (fm (nc (by decide)) (fm (nc (by decide)) (fm (nc (by decide)) (fm (nc (by decide)) (fm (nc (by decide)) (fm (nc (by decide)) (fm (nc (by decide)) (fm ncI (fm (fun y l _ => .cstO (by show "tuple" ≠ "str"; decide) ⟨by decide +kernel, by decide +kernel⟩) fn0))))))))))))
theorem on2c : ∀ d ∈ onM2, NC d := (fm (nc (by decide)) (fm (nc (by decide)) (fm (nc (by decide)) (fm (nc (by decide)) (fm (nc (by decide)) (fm (nc (by decide)) (fm (nc (by decide)) fn0)))))))
def sp_law_odd_name : Sp := sp2 fun x y H Q _ => ∃ (a : Addr), x = .ref a ∧ Pot a H ∧ ((y = .str (S wVAR) ∧ ∀ v H' d, NV d → TD H' v d → Pot a H' → Kb a H H' → Q v H') ∨ (y = .str (S wCONST) ∧ ∀ v H' d, NC d → TD H' v d → Pot a H' → Kb a H H' → Q v H'))
theorem ok_law_odd_name (T : Txt w K mg) {fd : FuncData} (F : Fn_law_odd_name K fd) (hm : mg "_law_odd_name" = some (.ref (He.ga K "_law_odd_name"))) (c_law_take : CalX P w K mg base CX0 1 "_law_take" sp_law_take) : CalX P w K mg base CX0 2 "_law_odd_name" sp_law_odd_name := by
  refine calx0 (k := 1) F hm sc_law_odd_name (b_law_odd_name F) (fun _ _ _ _ h => sp2_len h) (fun cdv A outer s H vs Q E hr h => ?_)
  obtain ⟨x0, x1, rfl, h⟩ := h
  refine ⟨_, (pss_cons (ps_set (i := 2) sc_law_odd_name.nd rfl (Or.inl rfl) (pe_lst (pa_cons pe_str (pa_cons pe_str (pa_cons pe_str (pa_cons pe_str (pa_cons pe_str (pa_cons pe_str (pa_cons pe_str (pa_cons pe_str (pa_cons pe_str (pa_cons pe_str (pa_cons pe_int (pa_cons (pe_tup (pa_cons pe_str pa_nil)) pa_nil))))))))))))))
    (pss_cons (ps_if (pt_cmpR op_eq (pv 1) pe_str (nomark _))
    (pss_one (ps_set (i := 2) sc_law_odd_name.nd rfl (Or.inl rfl) (pe_op op_cat (pv 2) (pe_lst (pa_cons pe_str (pa_cons pe_str (pa_cons pe_str (pa_cons pe_str (pa_cons pe_str (pa_cons pe_str (pa_cons pe_str (pa_cons pe_str (pa_cons pe_str pa_nil)))))))))))))
    (pss_one (ps_set (i := 2) sc_law_odd_name.nd rfl (Or.inl rfl) (pe_op op_cat (pv 2) (pe_lst (pa_cons pe_str (pa_cons pe_str (pa_cons pe_str (pa_cons pe_str (pa_cons pe_str (pa_cons pe_str (pa_cons pe_str pa_nil))))))))))))
    (pss_one (ps_ret (pe_ix ix_list (pv 2) (pe_cx c_law_take hr (by decide) rfl pass0 (pa_cons (pv 0) (pa_cons (pe_callB call_lenQ (by rfl) T.f_len PySem.boot_len (pa_cons (pv 2) pa_nil)) pa_nil))) (fun _ _ => rfl)))))), ?_⟩
  rw [show start ["pot", "word", "bad"] [x0, x1] = [some x0, some x1, none] from rfl]
  have ec0 : Str.ofString "" = S [] := S_ofs (by decide +kernel)
  have ec1 : Str.ofString "lam" = S [108,97,109] := S_ofs (by decide +kernel)
  have ec2 : Str.ofString "bool" = S [98,111,111,108] := S_ofs (by decide +kernel)
  have ec3 : Str.ofString "Name" = S [78,97,109,101] := S_ofs (by decide +kernel)
  have ec4 : Str.ofString "1a" = S [49,97] := S_ofs (by decide +kernel)
  have ec5 : Str.ofString "_a" = S [95,97] := S_ofs (by decide +kernel)
  have ec6 : Str.ofString "a b" = S [97,32,98] := S_ofs (by decide +kernel)
  have ec7 : Str.ofString "a-" = S [97,45] := S_ofs (by decide +kernel)
  have ec8 : Str.ofString "a\n" = S [97,10] := S_ofs (by decide +kernel)
  have ec9 : Str.ofString "abcdefghijklmnopq" = S [97,98,99,100,101,102,103,104,105,106,107,108,109,110,111,112,113] := S_ofs (by decide +kernel)
  have ec10 : Str.ofString "var" = S [118,97,114] := S_ofs (by decide +kernel)
  have ec11 : Str.ofString "a" = S [97] := S_ofs (by decide +kernel)
  have ec12 : Str.ofString "all" = S [97,108,108] := S_ofs (by decide +kernel)
  have ec13 : Str.ofString "some" = S [115,111,109,101] := S_ofs (by decide +kernel)
  have ec14 : Str.ofString "true" = S [116,114,117,101] := S_ofs (by decide +kernel)
  have ec15 : Str.ofString "false" = S [102,97,108,115,101] := S_ofs (by decide +kernel)
  have ec16 : Str.ofString "=" = S [61] := S_ofs (by decide +kernel)
  have ec17 : Str.ofString "~" = S [126] := S_ofs (by decide +kernel)
  have ec18 : Str.ofString "&" = S [38] := S_ofs (by decide +kernel)
  have ec19 : Str.ofString "|" = S [124] := S_ofs (by decide +kernel)
  have ec20 : Str.ofString "=>" = S [61,62] := S_ofs (by decide +kernel)
  have ec21 : Str.ofString "==" = S [61,61] := S_ofs (by decide +kernel)
  have ec22 : Str.ofString "->" = S [45,62] := S_ofs (by decide +kernel)
  have ec23 : Str.ofString "|-" = S [124,45] := S_ofs (by decide +kernel)
  have ec24 : Str.ofString "~~" = S [126,126] := S_ofs (by decide +kernel)
  have ec25 : Str.ofString "&&" = S [38,38] := S_ofs (by decide +kernel)
  have ec26 : Str.ofString "= " = S [61,32] := S_ofs (by decide +kernel)
  have ec27 : Str.ofString "ALL" = S [65,76,76] := S_ofs (by decide +kernel)
  rw [ec0, ec1, ec2, ec3, ec4, ec5, ec6, ec7, ec8, ec9, ec10, ec11, ec12, ec13, ec14, ec15, ec16, ec17, ec18, ec19, ec20, ec21, ec22, ec23, ec24, ec25, ec26, ec27]
  obtain ⟨a, rfl, hP, hh⟩ := h
  try dsimp only [cxOf]
  walk_at "v"
  refine ev_lst (ds := onM0) (by walk_at "d") (fun m3 H3 hm3 s3 d3 => ?_)
  walk_at "v"
  rcases hh with ⟨rfl, hQ⟩ | ⟨rfl, hQ⟩
  · walk_at "v"
    rw [show decide (wVAR = [118, 97, 114]) = true from by decide]
    walk_at "v"
    refine ev_lst (ds := onM1) (by walk_at "d") (fun l4a H4a hl4a s4a d4a => ?_)
    walk_at "v"
    refine l_cat (d3.same s4a) d4a (fun l4 H4 hl4 s4b d4 => ?_) (Nat.le_of_ble_eq_true rfl)
    walk_at "v"
    have s4 := s4a.tr s4b
    have P4 := hP.same (s3.tr s4)
    refine l_len d4 ?_
    walk_at "v"
    refine ⟨_, _, rfl, a, (onM0 ++ onM1).length, rfl, rfl, Nat.le_of_ble_eq_true rfl, Nat.le_of_ble_eq_true rfl, P4, fun v5 H5 hv5 P5 k5 => ?_⟩
    walk_at "v"
    have hla : l4 ≠ a := Pot.ne (hP.same (s3.tr s4a)) hl4
    obtain ⟨d, e, hd⟩ := bad_at (fap on0v on1v) hv5
    refine l_ix (DLkb d4 P4 k5 hla) e (fun x tx => ?_)
    exact hQ x H5 d hd tx P5 ((Kb.same (s3.tr s4)).tr k5)
  · walk_at "v"
    rw [show decide (wCONST = [118, 97, 114]) = false from by decide]
    walk_at "v"
    refine ev_lst (ds := onM2) (by walk_at "d") (fun l4a H4a hl4a s4a d4a => ?_)
    walk_at "v"
    refine l_cat (d3.same s4a) d4a (fun l4 H4 hl4 s4b d4 => ?_) (Nat.le_of_ble_eq_true rfl)
    walk_at "v"
    have s4 := s4a.tr s4b
    have P4 := hP.same (s3.tr s4)
    refine l_len d4 ?_
    walk_at "v"
    refine ⟨_, _, rfl, a, (onM0 ++ onM2).length, rfl, rfl, Nat.le_of_ble_eq_true rfl, Nat.le_of_ble_eq_true rfl, P4, fun v5 H5 hv5 P5 k5 => ?_⟩
    walk_at "v"
    have hla : l4 ≠ a := Pot.ne (hP.same (s3.tr s4a)) hl4
    obtain ⟨d, e, hd⟩ := bad_at (fap on0c on2c) hv5
    refine l_ix (DLkb d4 P4 k5 hla) e (fun x tx => ?_)
    exact hQ x H5 d hd tx P5 ((Kb.same (s3.tr s4)).tr k5)

end
end K02

namespace K02
open PySem PySem.Spec PyProof.Rows L2 SX
local macro_rules | `(tactic| walk_at "w1") => `(tactic| (first
  | with_reducible refine w_seq ?_ | with_reducible refine w_asgN ?_ | with_reducible refine w_c ?_
  | ((with_reducible refine' w_var ?wv ?_); (case wv => exact rfl))
  | with_reducible refine w_op ?_ | with_reducible refine w_un ?_ | with_reducible refine w_next ?_ | with_reducible refine w_brk ?_ | with_reducible refine w_cnt ?_
  | with_reducible refine w_ifS ?_ | with_reducible refine w_if ?_ | with_reducible refine w_test ?_ | with_reducible refine w_tB ?_ | with_reducible refine w_bl ?_ | with_reducible refine w_blI ?_
  | with_reducible refine w_and ?_ | with_reducible refine w_or ?_ | with_reducible refine w_not ?_ | with_reducible refine w_andV ?_ | with_reducible refine w_orV ?_ | with_reducible refine w_notV ?_
  | with_reducible refine w_nil ?_ | with_reducible refine w_cons ?_ | with_reducible refine w_cb ?_ | with_reducible refine w_call ?_ | with_reducible refine w_callS ?_ | with_reducible refine w_chain ?_
  | with_reducible refine w_tupN ?_ | with_reducible refine w_lstN ?_ | with_reducible refine w_sl ?_ | with_reducible refine w_noPart ?_ | with_reducible refine w_part ?_ | with_reducible refine w_partI ?_
  | with_reducible refine w_ret ?_ | with_reducible refine w_retN ?_ | with_reducible refine w_drop ?_ | with_reducible refine w_asg ?_ | with_reducible refine w_gSub ?_
  | ((with_reducible refine' w_aug ?wv ?_); (case wv => exact rfl)) | with_reducible refine w_ipI ?_
  | with_reducible refine w_addI ?_ | with_reducible refine w_subI ?_ | with_reducible refine w_ltI ?_ | with_reducible refine w_leI ?_ | with_reducible refine w_gtI ?_ | with_reducible refine w_geI ?_
  | with_reducible refine w_eqI ?_ | with_reducible refine w_neI ?_ | with_reducible refine w_eqT ?_ | with_reducible refine w_neT ?_ | with_reducible refine w_inS ?_ | with_reducible refine w_ninS ?_
  | with_reducible refine w_absI ?_ | with_reducible refine w_intI ?_ | with_reducible refine w_maxI ?_ | with_reducible refine w_minI ?_
  | with_reducible refine w_for ?_ | with_reducible refine w_iR1 ?_ | with_reducible refine w_iR2 ?_ | with_reducible refine w_iStr ?_ | with_reducible refine w_strI ?_ | with_reducible refine w_iList ?_ | with_reducible refine w_iTup ?_
  | with_reducible refine w_bm ?_ | with_reducible refine w_bm0 ?_ | with_reducible refine w_t ?_ | with_reducible refine w_f ?_ | with_reducible refine w_nt ?_ | with_reducible refine w_nx ?_ | with_reducible refine w_rt ?_ | with_reducible refine w_bk ?_ | with_reducible refine w_ct ?_ | with_reducible refine w_nf ?_ | with_reducible refine w_lc ?_ | with_reducible refine w_yes ?_ | with_reducible refine w_neg ?_ | with_reducible refine w_intB ?_ | with_reducible refine w_fld ?_ | with_reducible refine w_setf ?_ | with_reducible refine w_faug ?_ | with_reducible refine w_meth ?_ | with_reducible refine w_bmS ?_ | with_reducible refine w_start ?_ | with_reducible refine w_revL ?_ | with_reducible refine w_iR3 ?_))
local macro_rules | `(tactic| walk_at "w") => `(tactic| (repeat (first | walk_at "w1" | dsimp (config := { proj := false }) only [List.set_cons_zero, List.set_cons_succ])))
section
variable {w : World} {K : PySem.W.Frag} {mg : Str → Option Value} {base : Heap}
local macro_rules | `(tactic| walk_at "v1") => `(tactic| (first
  | with_reducible refine w_seq ?_ | with_reducible refine w_asgN ?_ | with_reducible refine w_c ?_
  | ((with_reducible refine' w_var ?wv ?_); (case wv => exact rfl))
  | with_reducible refine w_op ?_ | with_reducible refine w_un ?_ | with_reducible refine w_next ?_ | with_reducible refine w_brk ?_ | with_reducible refine w_cnt ?_
  | with_reducible refine w_ifS ?_ | with_reducible refine w_if ?_ | with_reducible refine w_test ?_ | with_reducible refine w_tB ?_ | with_reducible refine w_bl ?_ | with_reducible refine w_blI ?_
  | with_reducible refine w_and ?_ | with_reducible refine w_or ?_ | with_reducible refine w_not ?_ | with_reducible refine w_andV ?_ | with_reducible refine w_orV ?_ | with_reducible refine w_notV ?_
  | with_reducible refine w_nil ?_ | with_reducible refine w_cons ?_ | with_reducible refine w_cb ?_ | with_reducible refine w_call ?_ | with_reducible refine w_callS ?_ | with_reducible refine w_chain ?_
  | with_reducible refine w_sl ?_ | with_reducible refine w_noPart ?_ | with_reducible refine w_part ?_ | with_reducible refine w_partI ?_
  | with_reducible refine w_ret ?_ | with_reducible refine w_retN ?_ | with_reducible refine w_drop ?_ | with_reducible refine w_asg ?_ | with_reducible refine w_gSub ?_
  | ((with_reducible refine' w_aug ?wv ?_); (case wv => exact rfl)) | with_reducible refine w_ipI ?_
  | with_reducible refine w_addI ?_ | with_reducible refine w_subI ?_ | with_reducible refine w_ltI ?_ | with_reducible refine w_leI ?_ | with_reducible refine w_gtI ?_ | with_reducible refine w_geI ?_
  | with_reducible refine w_eqI ?_ | with_reducible refine w_neI ?_ | with_reducible refine w_eqT ?_ | with_reducible refine w_neT ?_ | with_reducible refine w_inS ?_ | with_reducible refine w_ninS ?_
  | with_reducible refine w_absI ?_ | with_reducible refine w_intI ?_ | with_reducible refine w_maxI ?_ | with_reducible refine w_minI ?_
  | with_reducible refine w_for ?_ | with_reducible refine w_iR1 ?_ | with_reducible refine w_iR2 ?_ | with_reducible refine w_iStr ?_ | with_reducible refine w_strI ?_ | with_reducible refine w_iList ?_ | with_reducible refine w_iTup ?_
  | with_reducible refine w_bm ?_ | with_reducible refine w_bm0 ?_ | with_reducible refine w_t ?_ | with_reducible refine w_f ?_ | with_reducible refine w_nt ?_ | with_reducible refine w_nx ?_ | with_reducible refine w_rt ?_ | with_reducible refine w_bk ?_ | with_reducible refine w_ct ?_ | with_reducible refine w_nf ?_ | with_reducible refine w_lc ?_ | with_reducible refine w_yes ?_ | with_reducible refine w_neg ?_ | with_reducible refine w_intB ?_ | with_reducible refine w_fld ?_ | with_reducible refine w_setf ?_ | with_reducible refine w_faug ?_ | with_reducible refine w_meth ?_ | with_reducible refine w_bmS ?_ | with_reducible refine w_start ?_ | with_reducible refine w_revL ?_ | with_reducible refine w_iR3 ?_))
local macro_rules | `(tactic| walk_at "v") => `(tactic| (repeat (first | walk_at "v1" | dsimp (config := { proj := false }) only [List.set_cons_zero, List.set_cons_succ])))
local macro_rules | `(tactic| walk_at "d") => `(tactic| (repeat (first | exact eva_nil | refine eva_cons ?_ ?_ | exact ev_str | exact ev_int | exact ev_neg | refine ev_tup ?_ | (refine ev_var rfl ?_; assumption))))


theorem tds_strs : ∀ {H : Hp} {xs : List V} {ws : List (List Nat)}, TDs H xs (ws.map fun w => PyData.str (S w)) → xs = ws.map fun w => V.str (S w)
  | H, xs, [], h => h.nil_
  | H, xs, w :: ws, h => by
    obtain ⟨x, ys, rfl, a, b⟩ := h.cons_
    rw [a.txt, tds_strs b]; rfl
theorem dl_strs {H : Hp} {p : Addr} {ws : List (List Nat)} (h : DL H p (ws.map fun w => PyData.str (S w))) : ∃ xs, H p = some (.lst xs) ∧ xs = ws.map fun w => V.str (S w) := let ⟨xs, e, t⟩ := h; ⟨xs, e, tds_strs t⟩
abbrev natD (js : List Nat) : List PyData := js.map fun (n : Nat) => PyData.int (n : Int)
def sp_law_spots : Sp := sp2 fun x y H Q _ => ∃ (p q : Addr) (c : List G2) (ws : List (List Nat)), x = .ref p ∧ y = .ref q ∧ DL H p (gd c) ∧ DL H q (ws.map fun w => PyData.str (S w)) ∧ c.length ≤ 5000 ∧
  ∀ r H' (js : List Nat), H r = none → Same H H' → DL H' r (natD js) → js.length ≤ c.length → (∀ j, j ∈ js ↔ ∃ r, c[j]? = some r ∧ gw r ∈ ws) → Q (.ref r) H'
theorem ok_law_spots (T : Txt w K mg) {fd : FuncData} (F : Fn_law_spots K fd) (hm : mg "_law_spots" = some (.ref (He.ga K "_law_spots")))  : CalX P w K mg base CX0 1 "_law_spots" sp_law_spots := by
  refine calx0 (k := 0) F hm sc_law_spots (b_law_spots F) (fun _ _ _ _ h => sp2_len h) (fun cdv A outer s H vs Q E hr h => ?_)
  obtain ⟨x0, x1, rfl, h⟩ := h
  refine ⟨_, (pss_one (ps_ret (pe_lc (own := [("k", 2)]) (g := gName 2) (by rfl) sc_law_spots.nd (pi_range1 (by rfl) T.f_range (pa_cons (pe_callB call_lenQ (by rfl) T.f_len PySem.boot_len (pa_cons (pv 0) pa_nil)) pa_nil)) (blkOk_by (own := [("k", 2)]) (N := ["code", "words", "k"]) (sc := defScope s_law_spots) (by decide +kernel)) (fun _ _ _ _ _ => pg_name (i := 2) sc_law_spots.nd rfl (Or.inl rfl)) (fun _ _ _ _ _ => (pts_one (pt_cmpR (r := rIn K false) op_in_seq (pe_ix (r := rIxT K) ix_tup (pe_ix (r := rIxL K) ix_list (pv 0) (pv 2) (fun _ _ => rfl)) pe_int (fun _ _ => rfl)) (pv 1) rfl))) (fun _ _ _ _ _ => (pv 2))))), ?_⟩
  rw [show start ["code", "words", "k"] [x0, x1] = [some x0, some x1, none] from rfl]
  obtain ⟨p, q, c, ws, rfl, rfl, dp, dq, hl, hQ⟩ := h
  try dsimp only [cxOf]
  walk_at "v"
  refine l_len dp ?_
  rw [show (gd c).length = c.length by unfold gd cd; rw [List.length_map, List.length_map]]
  walk_at "v"
  refine w_rg1 (by omega) (by omega) ?_
  intro D hD
  refine lc_range (fun i H' => Same H H' ∧ ∃ js : List Nat, DL H' D (natD js) ∧ js.length ≤ i ∧ ∀ j, j ∈ js ↔ j < i ∧ ∃ r, c[j]? = some r ∧ gw r ∈ ws) ⟨same_upd hD, [], ⟨[], upd_same, .nil⟩, Nat.zero_le _, fun j => ⟨(fun h => by cases h), fun h => absurd h.1 (Nat.not_lt_zero _)⟩⟩ ?_ ?_
  · rintro i H' hi ⟨sm, js, dj, hjl, hj⟩
    have hi : i < c.length := hi
    dsimp only [gName]
    refine ⟨rfl, ?_⟩
    walk_at "v"
    rw [show (0 : Int) + (i : Int) = (i : Int) by omega]
    have eci := List.getElem?_eq_getElem hi
    refine l_ix (dp.same sm) (show (gd c)[i]? = some (upR c[i]).d by unfold gd cd; rw [List.getElem?_map, List.getElem?_map, eci]; rfl) (fun x tx => ?_)
    walk_at "v"
    obtain ⟨rest, ed⟩ := gw_d c[i]
    rw [ed] at tx
    refine t_ixS (n := 0) tx rfl ?_
    walk_at "v"
    obtain ⟨xs, eq, exs⟩ := dl_strs (dq.same sm)
    refine w_inLst (SqL.of eq) exs ?_
    walk_at "v"
    have snoc : ∀ {js' : List Nat}, (∀ j, j ∈ js' ↔ j ∈ js ∨ (j = i ∧ gw c[i] ∈ ws)) → ∀ j, j ∈ js' ↔ j < i + 1 ∧ ∃ r, c[j]? = some r ∧ gw r ∈ ws := fun hh j => by
      rw [hh j, hj j]
      constructor
      · rintro (⟨a, b⟩ | ⟨rfl, b⟩)
        · exact ⟨by omega, b⟩
        · exact ⟨by omega, _, eci, b⟩
      · rintro ⟨a, r, e, b⟩
        by_cases z : j = i
        · subst z
          rw [eci] at e
          cases e
          exact .inr ⟨rfl, b⟩
        · exact .inl ⟨by omega, r, e, b⟩
    by_cases hm : gw c[i] ∈ ws
    · rw [decide_eq_true hm]
      walk_at "v"
      obtain ⟨xs, e, t⟩ := dj
      have lx := t.len
      rw [List.length_map] at lx
      have ex : Ex D H' (upd H' D (.lst (xs ++ [.int (i : Int)]))) := fun b hb => upd_ne hb
      refine ⟨_, e, szl (show _ ≤ 100000 by omega), ⟨sm.ex hD ex, js ++ [i], ⟨_, upd_same, ?_⟩, by rw [List.length_append]; show js.length + 1 ≤ i + 1; omega, snoc fun j => ?_⟩⟩
      · unfold natD
        rw [List.map_append]
        exact (t.tm (Tm.ex e ex)).snoc (.int _)
      · rw [List.mem_append, List.mem_singleton]
        exact ⟨fun h => h.imp id fun h => ⟨h, hm⟩, fun h => h.imp id fun h => h.1⟩
    · rw [decide_eq_false hm]
      exact ⟨sm, js, dj, by omega, snoc fun j => ⟨.inl, fun h => h.elim id fun h => absurd h.2 hm⟩⟩
  rintro H1 ⟨sm, js, dj, hjl, hj⟩
  refine hQ _ _ js hD sm dj hjl fun j => ?_
  rw [hj j]
  exact ⟨fun h => h.2, fun h => ⟨by obtain ⟨r, e, _⟩ := h; exact (List.getElem?_eq_some_iff.mp e).1, h⟩⟩

def sp_law_changed : Sp := sp3 fun x y z H Q _ => ∃ (p : Addr) (ds : List PyData) (i : Nat) (d : PyData), x = .ref p ∧ y = .int (i : Int) ∧ DL H p ds ∧ TD H z d ∧ i < ds.length ∧ ds.length ≤ 5000 ∧
  ∀ r H', H r = none → Same H H' → DL H' r (ds.set i d) → Q (.ref r) H'
theorem ok_law_changed (T : Txt w K mg) {fd : FuncData} (F : Fn_law_changed K fd) (hm : mg "_law_changed" = some (.ref (He.ga K "_law_changed")))  : CalX P w K mg base CX0 1 "_law_changed" sp_law_changed := by
  refine calx0 (k := 0) F hm sc_law_changed (b_law_changed F) (fun _ _ _ _ h => sp3_len h) (fun cdv A outer s H vs Q E hr h => ?_)
  obtain ⟨x0, x1, x2, rfl, h⟩ := h
  refine ⟨_, (pss_one (ps_ret (pe_op op_cat (pe_op op_cat (pe_slice sl_list (pv 0) po_none (po_some (pv 1))) (pe_lst (pa_cons (pv 2) pa_nil))) (pe_slice sl_list (pv 0) (po_some (pe_op op_addI (pv 1) pe_int)) po_none)))), ?_⟩
  rw [show start ["code", "place", "row"] [x0, x1, x2] = [some x0, some x1, some x2] from rfl]
  obtain ⟨p, ds, i, d, rfl, rfl, dp, td, hi, hl, hQ⟩ := h
  try dsimp only [cxOf]
  walk_at "v"
  refine l_to dp (fun t1 H1 h1 s1 d1 => ?_)
  walk_at "v"
  refine ev_lst (ds := [d]) (eva_cons (ev_var rfl (td.tm (Tm.same s1))) eva_nil) (fun t2 H2 h2 s2 d2 => ?_)
  walk_at "v"
  refine l_cat (d1.same s2) d2 (fun t3 H3 h3 s3 d3 => ?_) (by rw [List.length_take]; show min i ds.length + 1 ≤ 100000; omega)
  walk_at "v"
  rw [show (i : Int) + 1 = ((i + 1 : Nat) : Int) by omega]
  refine l_from (dp.same ((s1.tr s2).tr s3)) (fun t4 H4 h4 s4 d4 => ?_)
  walk_at "v"
  have s04 := ((s1.tr s2).tr s3).tr s4
  refine l_cat (d3.same s4) d4 (fun t5 H5 h5 s5 d5 => ?_) (by rw [List.length_append, List.length_take, List.length_drop]; show min i ds.length + 1 + _ ≤ 100000; omega)
  refine hQ _ _ (s04.fresh h5) (s04.tr s5) ?_
  rw [List.set_eq_take_append_cons_drop, if_pos hi]
  rwa [List.append_assoc] at d5

/-- a written row with another kind -/
def wkR : G2 → PyData → PRow
  | .lam _, d => .lam d
  | .tip (.var w _), d => .tip (.tip (.tuple [.str (S wVAR), .str (S w), d]))
  | .tip (.cst w _), d => .tip (.tip (.tuple [.str (S wCONST), .str (S w), d]))
  | r, _ => upR r
def sp_law_with_kind : Sp := sp2 fun x y H Q _ => ∃ (r : G2) (d : PyData), Wr r ∧ TD H x (upR r).d ∧ TD H y d ∧ ∀ v H', Same H H' → TD H' v (wkR r d).d → Q v H'
theorem ok_law_with_kind (T : Txt w K mg) {fd : FuncData} (F : Fn_law_with_kind K fd) (hm : mg "_law_with_kind" = some (.ref (He.ga K "_law_with_kind")))  : CalX P w K mg base CX0 1 "_law_with_kind" sp_law_with_kind := by
  refine calx0 (k := 0) F hm sc_law_with_kind (b_law_with_kind F) (fun _ _ _ _ h => sp2_len h) (fun cdv A outer s H vs Q E hr h => ?_)
  obtain ⟨x0, x1, rfl, h⟩ := h
  refine ⟨_, (pss_cons (ps_if (pt_cmpR op_eq (pe_ix ix_tup (pv 0) pe_int (fun _ _ => rfl)) pe_str (nomark _))
    (pss_one (ps_ret (pe_tup (pa_cons pe_str (pa_cons (pv 1) pa_nil)))))
    pss_nil)
    (pss_one (ps_ret (pe_tup (pa_cons (pe_ix ix_tup (pv 0) pe_int (fun _ _ => rfl)) (pa_cons (pe_ix ix_tup (pv 0) pe_int (fun _ _ => rfl)) (pa_cons (pv 1) pa_nil))))))), ?_⟩
  rw [show start ["row", "kind"] [x0, x1] = [some x0, some x1] from rfl]
  have ec0 : Str.ofString "lam" = S [108,97,109] := S_ofs (by decide +kernel)
  rw [ec0]
  obtain ⟨r, d, hr, hx, hy, hQ⟩ := h
  try dsimp only [cxOf]
  walk_at "v"
  obtain ⟨rest, ed⟩ := gw_d r
  have hx' := hx
  rw [ed] at hx'
  refine t_ixS (n := 0) hx' rfl ?_
  walk_at "v"
  cases r with
  | app => cases hr
  | lam k =>
    rw [show decide (gw (.lam k) = [108, 97, 109]) = true from (show decide (wLAM = [108, 97, 109]) = true by decide)]
    walk_at "v"
    refine ev_go (d := .tuple [.str (S wLAM), d]) (ev_tup (eva_cons ev_str (eva_cons (ev_var rfl hy) eva_nil))) (fun x H1 s1 t1 => ?_)
    exact hQ _ _ s1 t1
  | tip l =>
    cases l with
    | bnd i => cases hr
    | var w k =>
      rw [show decide (gw (.tip (.var w k)) = [108, 97, 109]) = false from by rw [show gw (.tip (.var w k)) = wVAR from rfl]; decide]
      walk_at "v"
      have hx : TD H x0 (.tuple [.str (S wVAR), .str (S w), k.d]) := hx
      refine w_tupN ?_
      walk_at "v"
      refine t_ixS (n := 0) hx rfl ?_
      walk_at "v"
      refine t_ixS (n := 1) hx rfl ?_
      walk_at "v"
      refine t_new (ds := [.str (S wVAR), .str (S w), d]) (.cons (.str _) (.cons (.str _) (.cons hy .nil))) (fun p2 H2 hp2 s2 t2 => ?_)
      exact hQ _ _ s2 t2
    | cst w k =>
      rw [show decide (gw (.tip (.cst w k)) = [108, 97, 109]) = false from by rw [show gw (.tip (.cst w k)) = wCONST from rfl]; decide]
      walk_at "v"
      have hx : TD H x0 (.tuple [.str (S wCONST), .str (S w), k.d]) := hx
      refine w_tupN ?_
      walk_at "v"
      refine t_ixS (n := 0) hx rfl ?_
      walk_at "v"
      refine t_ixS (n := 1) hx rfl ?_
      walk_at "v"
      refine t_new (ds := [.str (S wCONST), .str (S w), d]) (.cons (.str _) (.cons (.str _) (.cons hy .nil))) (fun p2 H2 hp2 s2 t2 => ?_)
      exact hQ _ _ s2 t2

end
end K02

namespace K02
open PySem PySem.Spec PyProof.Rows L2 SX
local macro_rules | `(tactic| walk_at "w1") => `(tactic| (first
  | with_reducible refine w_seq ?_ | with_reducible refine w_asgN ?_ | with_reducible refine w_c ?_
  | ((with_reducible refine' w_var ?wv ?_); (case wv => exact rfl))
  | with_reducible refine w_op ?_ | with_reducible refine w_un ?_ | with_reducible refine w_next ?_ | with_reducible refine w_brk ?_ | with_reducible refine w_cnt ?_
  | with_reducible refine w_ifS ?_ | with_reducible refine w_if ?_ | with_reducible refine w_test ?_ | with_reducible refine w_tB ?_ | with_reducible refine w_bl ?_ | with_reducible refine w_blI ?_
  | with_reducible refine w_and ?_ | with_reducible refine w_or ?_ | with_reducible refine w_not ?_ | with_reducible refine w_andV ?_ | with_reducible refine w_orV ?_ | with_reducible refine w_notV ?_
  | with_reducible refine w_nil ?_ | with_reducible refine w_cons ?_ | with_reducible refine w_cb ?_ | with_reducible refine w_call ?_ | with_reducible refine w_callS ?_ | with_reducible refine w_chain ?_
  | with_reducible refine w_tupN ?_ | with_reducible refine w_lstN ?_ | with_reducible refine w_sl ?_ | with_reducible refine w_noPart ?_ | with_reducible refine w_part ?_ | with_reducible refine w_partI ?_
  | with_reducible refine w_ret ?_ | with_reducible refine w_retN ?_ | with_reducible refine w_drop ?_ | with_reducible refine w_asg ?_ | with_reducible refine w_gSub ?_
  | ((with_reducible refine' w_aug ?wv ?_); (case wv => exact rfl)) | with_reducible refine w_ipI ?_
  | with_reducible refine w_addI ?_ | with_reducible refine w_subI ?_ | with_reducible refine w_ltI ?_ | with_reducible refine w_leI ?_ | with_reducible refine w_gtI ?_ | with_reducible refine w_geI ?_
  | with_reducible refine w_eqI ?_ | with_reducible refine w_neI ?_ | with_reducible refine w_eqT ?_ | with_reducible refine w_neT ?_ | with_reducible refine w_inS ?_ | with_reducible refine w_ninS ?_
  | with_reducible refine w_absI ?_ | with_reducible refine w_intI ?_ | with_reducible refine w_maxI ?_ | with_reducible refine w_minI ?_
  | with_reducible refine w_for ?_ | with_reducible refine w_iR1 ?_ | with_reducible refine w_iR2 ?_ | with_reducible refine w_iStr ?_ | with_reducible refine w_strI ?_ | with_reducible refine w_iList ?_ | with_reducible refine w_iTup ?_
  | with_reducible refine w_bm ?_ | with_reducible refine w_bm0 ?_ | with_reducible refine w_t ?_ | with_reducible refine w_f ?_ | with_reducible refine w_nt ?_ | with_reducible refine w_nx ?_ | with_reducible refine w_rt ?_ | with_reducible refine w_bk ?_ | with_reducible refine w_ct ?_ | with_reducible refine w_nf ?_ | with_reducible refine w_lc ?_ | with_reducible refine w_yes ?_ | with_reducible refine w_neg ?_ | with_reducible refine w_intB ?_ | with_reducible refine w_fld ?_ | with_reducible refine w_setf ?_ | with_reducible refine w_faug ?_ | with_reducible refine w_meth ?_ | with_reducible refine w_bmS ?_ | with_reducible refine w_start ?_ | with_reducible refine w_revL ?_ | with_reducible refine w_iR3 ?_))
local macro_rules | `(tactic| walk_at "w") => `(tactic| (repeat (first | walk_at "w1" | dsimp (config := { proj := false }) only [List.set_cons_zero, List.set_cons_succ])))
section
variable {w : World} {K : PySem.W.Frag} {mg : Str → Option Value} {base : Heap}
local macro_rules | `(tactic| walk_at "v1") => `(tactic| (first
  | with_reducible refine w_seq ?_ | with_reducible refine w_asgN ?_ | with_reducible refine w_c ?_
  | ((with_reducible refine' w_var ?wv ?_); (case wv => exact rfl))
  | with_reducible refine w_op ?_ | with_reducible refine w_un ?_ | with_reducible refine w_next ?_ | with_reducible refine w_brk ?_ | with_reducible refine w_cnt ?_
  | with_reducible refine w_ifS ?_ | with_reducible refine w_if ?_ | with_reducible refine w_test ?_ | with_reducible refine w_tB ?_ | with_reducible refine w_bl ?_ | with_reducible refine w_blI ?_
  | with_reducible refine w_and ?_ | with_reducible refine w_or ?_ | with_reducible refine w_not ?_ | with_reducible refine w_andV ?_ | with_reducible refine w_orV ?_ | with_reducible refine w_notV ?_
  | with_reducible refine w_nil ?_ | with_reducible refine w_cons ?_ | with_reducible refine w_cb ?_ | with_reducible refine w_call ?_ | with_reducible refine w_callS ?_ | with_reducible refine w_chain ?_
  | with_reducible refine w_sl ?_ | with_reducible refine w_noPart ?_ | with_reducible refine w_part ?_ | with_reducible refine w_partI ?_
  | with_reducible refine w_ret ?_ | with_reducible refine w_retN ?_ | with_reducible refine w_drop ?_ | with_reducible refine w_asg ?_ | with_reducible refine w_gSub ?_
  | ((with_reducible refine' w_aug ?wv ?_); (case wv => exact rfl)) | with_reducible refine w_ipI ?_
  | with_reducible refine w_addI ?_ | with_reducible refine w_subI ?_ | with_reducible refine w_ltI ?_ | with_reducible refine w_leI ?_ | with_reducible refine w_gtI ?_ | with_reducible refine w_geI ?_
  | with_reducible refine w_eqI ?_ | with_reducible refine w_neI ?_ | with_reducible refine w_eqT ?_ | with_reducible refine w_neT ?_ | with_reducible refine w_inS ?_ | with_reducible refine w_ninS ?_
  | with_reducible refine w_absI ?_ | with_reducible refine w_intI ?_ | with_reducible refine w_maxI ?_ | with_reducible refine w_minI ?_
  | with_reducible refine w_for ?_ | with_reducible refine w_iR1 ?_ | with_reducible refine w_iR2 ?_ | with_reducible refine w_iStr ?_ | with_reducible refine w_strI ?_ | with_reducible refine w_iList ?_ | with_reducible refine w_iTup ?_
  | with_reducible refine w_bm ?_ | with_reducible refine w_bm0 ?_ | with_reducible refine w_t ?_ | with_reducible refine w_f ?_ | with_reducible refine w_nt ?_ | with_reducible refine w_nx ?_ | with_reducible refine w_rt ?_ | with_reducible refine w_bk ?_ | with_reducible refine w_ct ?_ | with_reducible refine w_nf ?_ | with_reducible refine w_lc ?_ | with_reducible refine w_yes ?_ | with_reducible refine w_neg ?_ | with_reducible refine w_intB ?_ | with_reducible refine w_fld ?_ | with_reducible refine w_setf ?_ | with_reducible refine w_faug ?_ | with_reducible refine w_meth ?_ | with_reducible refine w_bmS ?_ | with_reducible refine w_start ?_ | with_reducible refine w_revL ?_ | with_reducible refine w_iR3 ?_))
local macro_rules | `(tactic| walk_at "v") => `(tactic| (repeat (first | walk_at "v1" | dsimp (config := { proj := false }) only [List.set_cons_zero, List.set_cons_succ])))
local macro_rules | `(tactic| walk_at "d") => `(tactic| (repeat (first | exact eva_nil | refine eva_cons ?_ ?_ | exact ev_str | exact ev_int | exact ev_neg | refine ev_tup ?_ | (refine ev_var rfl ?_; assumption))))


/-- what stands through a round: the names, the pool, the pot, all else -/
def Bn (a p q : Addr) (H0 H : Hp) : Prop := NmL H p ∧ PoL H q ∧ Pot a H ∧ Kb a H0 H
section
variable {a p q : Addr} {H0 H H' : Hp}
theorem Bn.same (b : Bn a p q H0 H) (s : Same H H') : Bn a p q H0 H' := ⟨b.1.same s, b.2.1.same s, b.2.2.1.same s, b.2.2.2.then s⟩
theorem Bn.kb (b : Bn a p q H0 H) (P : Pot a H') (k : Kb a H H') : Bn a p q H0 H' := ⟨b.1.kb b.2.2.1 k (b.1.ne b.2.2.1), b.2.1.kb b.2.2.1 k (b.2.1.ne b.2.2.1 (by omega)), P, b.2.2.2.tr k⟩
theorem Bn.pot (b : Bn a p q H0 H) : Pot a H := b.2.2.1
theorem Bn.k (b : Bn a p q H0 H) : Kb a H0 H := b.2.2.2
end
theorem askG {H : Hp} {Q : VK} {E : XK} {p : Addr} {c : List G2} (d : DL H p (gd c)) (v : Vc c 1) (g : ∀ r ∈ c, r.gok) (l : c.length ≤ 5000) (k : ∀ H', Same H H' → Q (.bl true) H') : sp_law_ask [.ref p, .bl true] H Q E := by
  obtain ⟨t, e⟩ := v.one
  exact ⟨_, _, rfl, p, rfl, .inl ⟨rfl, c, t, d, v.1, e, g, l⟩, k⟩
theorem askB {H : Hp} {Q : VK} {E : XK} {p : Addr} {c : List PRow} (d : DL H p (cd c)) (v : Vc c 1) (g : ∀ r ∈ c, RowOk r ∧ RowK r) (b : ∃ r ∈ c, RowB r) (l : c.length ≤ 5000) (k : ∀ H', Same H H' → Q (.bl true) H') : sp_law_ask [.ref p, .bl false] H Q E := by
  obtain ⟨t, e⟩ := v.one
  exact ⟨_, _, rfl, p, rfl, .inr ⟨rfl, c, t, d, (fun r hr => (g r hr).1), v.1, e, bad_tree v.1 e (fun r hr => (g r hr).2) b l, l⟩, k⟩
theorem cd_set (c : List PRow) (i : Nat) (r : PRow) : (cd c).set i r.d = cd (c.set i r) := by unfold cd; rw [List.map_set]
theorem cd_len (c : List PRow) : (cd c).length = c.length := List.length_map ..
theorem cd_app (c e : List PRow) : cd (c ++ e) = cd c ++ cd e := List.map_append ..
theorem cd_rep (n : Nat) (r : PRow) : cd (List.replicate n r) = List.replicate n r.d := List.map_replicate ..
theorem gd_set (c : List G2) (i : Nat) (r : G2) : (gd c).set i (upR r).d = gd (c.set i r) := by unfold gd; rw [cd_set, List.map_set]
theorem wk_good {r : G2} {k : Kd} (h : Wr r) (g : r.gok) (hk : GK k) : ∃ r', wkR r k.d = upR r' ∧ r'.gok ∧ r'.ar = r.ar := by
  cases r with
  | app => cases h
  | lam k0 => exact ⟨.lam k, rfl, hk, rfl⟩
  | tip l => cases l with
    | bnd i => cases h
    | var w k0 => exact ⟨.tip (.var w k), rfl, ⟨g.1, hk⟩, rfl⟩
    | cst w k0 => exact ⟨.tip (.cst w k), rfl, ⟨g.1, hk⟩, rfl⟩
theorem wk_row {r : G2} {d : PyData} (h : Wr r) : RowOk (wkR r d) ∧ (wkR r d).ar = (upR r).ar := by
  cases r with
  | app => cases h
  | lam k0 => exact ⟨trivial, rfl⟩
  | tip l => cases l with
    | bnd i => cases h
    | var w k0 => exact ⟨⟨_, _, rfl, by decide, by decide, by decide⟩, rfl⟩
    | cst w k0 => exact ⟨⟨_, _, rfl, by decide, by decide, by decide⟩, rfl⟩
theorem wk_bad {r : G2} {d : PyData} (h : Wr r) (g : r.gok) (hd : KF d false) : RowB (wkR r d) := by
  cases r with
  | app => cases h
  | lam k0 => exact hd
  | tip l => cases l with
    | bnd i => cases h
    | var w k0 => exact fun n _ => .var g.1 hd
    | cst w k0 =>
      have hl : w.length ≤ 1000 := g.1.elim (fun h => by have := (name_cok h).2; omega) (fun h => by
        have : ∀ w ∈ LOGIC, w.length ≤ 1000 := by decide
        exact this w h)
      exact fun n _ => .cst hl g.1 hd
theorem gw_wr {r : G2} (h : gw r ∈ [wVAR, wCONST, wLAM]) : Wr r := by
  cases r with
  | app => exact absurd (show wAPP ∈ [wVAR, wCONST, wLAM] from h) (by decide)
  | lam k => trivial
  | tip l => cases l with
    | bnd i => exact absurd (show wBOUND ∈ [wVAR, wCONST, wLAM] from h) (by decide)
    | var w k => trivial
    | cst w k => trivial
theorem wr_gw {r : G2} (h : Wr r) : gw r ∈ [wVAR, wCONST, wLAM] := by
  cases r with
  | app => cases h
  | lam k => exact (show wLAM ∈ [wVAR, wCONST, wLAM] by decide)
  | tip l => cases l with
    | bnd i => cases h
    | var w k => exact (show wVAR ∈ [wVAR, wCONST, wLAM] by decide)
    | cst w k => exact (show wCONST ∈ [wVAR, wCONST, wLAM] by decide)
theorem gw_leaf {r : G2} (h : gw r ∈ [wVAR, wCONST, wBOUND]) : ∃ l, r = .tip l := by
  cases r with
  | app => exact absurd (show wAPP ∈ [wVAR, wCONST, wBOUND] from h) (by decide)
  | lam k => exact absurd (show wLAM ∈ [wVAR, wCONST, wBOUND] from h) (by decide)
  | tip l => exact ⟨l, rfl⟩
theorem leaf_gw (l : Lf) : gw (.tip l) ∈ [wVAR, wCONST, wBOUND] := by
  cases l with
  | bnd i => exact (show wBOUND ∈ [wVAR, wCONST, wBOUND] by decide)
  | var w k => exact (show wVAR ∈ [wVAR, wCONST, wBOUND] by decide)
  | cst w k => exact (show wCONST ∈ [wVAR, wCONST, wBOUND] by decide)
/-- a code with another row -/
theorem set_good {c : List G2} {i : Nat} {r r' : G2} (v : Vc c 1) (g : ∀ r ∈ c, r.gok) (e : c[i]? = some r) (ha : r'.ar = r.ar) (h : r'.gok) : Vc (c.set i r') 1 ∧ ∀ r ∈ c.set i r', r.gok :=
  ⟨v.set e ha, fun x hx => (List.mem_or_eq_of_mem_set hx).elim (g x) fun z => z ▸ h⟩
theorem set_bad {c : List G2} {i : Nat} {r : G2} {r' : PRow} (v : Vc c 1) (g : ∀ r ∈ c, r.gok) (e : c[i]? = some r) (ha : r'.ar = (upR r).ar) (h : RowOk r') (hb : RowB r') : Vc ((c.map upR).set i r') 1 ∧ (∀ r ∈ (c.map upR).set i r', RowOk r ∧ RowK r) ∧ ∃ r ∈ (c.map upR).set i r', RowB r := by
  have e' : (c.map upR)[i]? = some (upR r) := by rw [List.getElem?_map, e]; rfl
  refine ⟨(Vc.map Kd.d (fun (l : Lf) => Tp.tip l.d) v).set e' ha, fun x hx => (List.mem_or_eq_of_mem_set hx).elim (fun hx => ?_) fun z => z ▸ ⟨h, hb.k⟩, r', ?_, hb⟩
  · obtain ⟨y, hy, rfl⟩ := List.mem_map.mp hx
    exact ⟨upR_ok y, upR_k (g y hy)⟩
  · exact List.mem_set (List.getElem?_eq_some_iff.mp e').1 _
/-- a list of places, drawn from -/
theorem natD_at {js : List Nat} {i : Nat} (h : i < js.length) : (natD js)[i]? = some (.int (js[i] : Int)) := by unfold natD; rw [List.getElem?_map, List.getElem?_eq_getElem h]; rfl
def sp_law_ask_general : Sp := sp4 fun x y z u H Q _ => ∃ (a p q : Addr) (wy : Nat), x = .ref a ∧ y = .ref p ∧ z = .ref q ∧ u = .int (wy : Int) ∧ Bn a p q H H ∧ ∀ H', Pot a H' → Kb a H H' → Q (.bl true) H'
theorem ok_law_ask_general (T : Txt w K mg) {fd : FuncData} (F : Fn_law_ask_general K fd) (hm : mg "_law_ask_general" = some (.ref (He.ga K "_law_ask_general"))) (c_law_take : CalX P w K mg base CX0 1 "_law_take" sp_law_take)(c_law_grown : CalX P w K mg base CX0 3 "_law_grown" sp_law_grown)(c_law_ask : CalG P w K mg base CX0 55 "_law_ask" sp_law_ask)(c_law_spots : CalX P w K mg base CX0 1 "_law_spots" sp_law_spots)(c_law_changed : CalX P w K mg base CX0 1 "_law_changed" sp_law_changed)(c_law_with_kind : CalX P w K mg base CX0 1 "_law_with_kind" sp_law_with_kind)(c_law_odd : CalX P w K mg base CX0 2 "_law_odd" sp_law_odd)(c_law_odd_name : CalX P w K mg base CX0 2 "_law_odd_name" sp_law_odd_name)(c_law_odd_kind : CalX P w K mg base CX0 2 "_law_odd_kind" sp_law_odd_kind)(c_law_long : CalX P w K mg base CX0 2 "_law_long" sp_law_long) : CalG P w K mg base CX0 56 "_law_ask_general" sp_law_ask_general := by
  refine calg0 (k := 55) F hm sc_law_ask_general (b_law_ask_general F) (fun _ _ _ _ h => sp4_len h) (fun cdv A outer s H vs Q E hr h => ?_)
  obtain ⟨x0, x1, x2, x3, rfl, h⟩ := h
  refine ⟨_, (pss_cons (ps_set (i := 4) sc_law_ask_general.nd rfl (Or.inl rfl) (pe_op op_addI pe_int (pe_cx c_law_take hr.toRoom (by decide) rfl pass0 (pa_cons (pv 0) (pa_cons pe_int pa_nil)))))
    (Evl.pss_cut (ps_if (pt_cmpR op_eq (pe_cx c_law_take hr.toRoom (by decide) rfl pass0 (pa_cons (pv 0) (pa_cons pe_int pa_nil))) pe_int (nomark _))
    (pss_one (ps_set (i := 4) sc_law_ask_general.nd rfl (Or.inl rfl) pe_int))
    pss_nil)
    (pss_cons (ps_set (i := 5) sc_law_ask_general.nd rfl (Or.inl rfl) (pe_cx c_law_grown hr.toRoom (by decide) rfl pass0 (pa_cons (pv 0) (pa_cons (pe_ix ix_list (pv 2) (pe_cx c_law_take hr.toRoom (by decide) rfl pass0 (pa_cons (pv 0) (pa_cons pe_int pa_nil))) (fun _ _ => rfl)) (pa_cons (pv 1) (pa_cons (pv 2) (pa_cons (pv 4) pa_nil)))))))
    (pss_cons (ps_if (pt_not (pt_val (pe_cg c_law_ask hr (by decide) rfl pass0 (pa_cons (pv 5) (pa_cons pe_bl pa_nil)))))
    (pss_one (ps_ret pe_bl))
    pss_nil)
    (pss_cons (ps_set (i := 6) sc_law_ask_general.nd rfl (Or.inl rfl) (pe_cx c_law_spots hr.toRoom (by decide) rfl pass0 (pa_cons (pv 5) (pa_cons (pe_lst (pa_cons pe_str (pa_cons pe_str (pa_cons pe_str pa_nil)))) pa_nil))))
    (pss_cons (ps_set (i := 7) sc_law_ask_general.nd rfl (Or.inl rfl) (pe_ix ix_list (pv 6) (pe_cx c_law_take hr.toRoom (by decide) rfl pass0 (pa_cons (pv 0) (pa_cons (pe_callB call_lenQ (by rfl) T.f_len PySem.boot_len (pa_cons (pv 6) pa_nil)) pa_nil))) (fun _ _ => rfl)))
    (pss_cons (ps_set (i := 8) sc_law_ask_general.nd rfl (Or.inl rfl) (pe_cx c_law_spots hr.toRoom (by decide) rfl pass0 (pa_cons (pv 5) (pa_cons (pe_lst (pa_cons pe_str (pa_cons pe_str (pa_cons pe_str pa_nil)))) pa_nil))))
    (pss_cons (ps_set (i := 9) sc_law_ask_general.nd rfl (Or.inl rfl) (pe_ix ix_list (pv 8) (pe_cx c_law_take hr.toRoom (by decide) rfl pass0 (pa_cons (pv 0) (pa_cons (pe_callB call_lenQ (by rfl) T.f_len PySem.boot_len (pa_cons (pv 8) pa_nil)) pa_nil))) (fun _ _ => rfl)))
    (pss_cons (ps_set (i := 10) sc_law_ask_general.nd rfl (Or.inl rfl) (pe_ix ix_list (pv 2) (pe_cx c_law_take hr.toRoom (by decide) rfl pass0 (pa_cons (pv 0) (pa_cons pe_int pa_nil))) (fun _ _ => rfl)))
    (pss_cons (ps_if (pt_cmpR op_eq (pv 3) pe_int (nomark _))
    (Evl.pss_cut (ps_if (pt_cmpR op_eq (pe_cx c_law_take hr.toRoom (by decide) rfl pass0 (pa_cons (pv 0) (pa_cons pe_int pa_nil))) pe_int (nomark _))
    (pss_one (ps_set (i := 10) sc_law_ask_general.nd rfl (Or.inl rfl) (pe_tup (pa_cons pe_str (pa_cons (pv 10) (pa_cons (pe_ix ix_list (pv 2) pe_int (fun _ _ => rfl)) pa_nil))))))
    pss_nil)
    (pss_one (ps_ret (pe_cg c_law_ask hr (by decide) rfl pass0 (pa_cons (pe_cx c_law_changed hr.toRoom (by decide) rfl pass0 (pa_cons (pv 5) (pa_cons (pv 7) (pa_cons (pe_cx c_law_with_kind hr.toRoom (by decide) rfl pass0 (pa_cons (pe_ix ix_list (pv 5) (pv 7) (fun _ _ => rfl)) (pa_cons (pv 10) pa_nil))) pa_nil)))) (pa_cons pe_bl pa_nil))))))
    pss_nil)
    (pss_cons (ps_if (pt_cmpR op_eq (pv 3) pe_int (nomark _))
    (pss_cons (ps_set (i := 11) sc_law_ask_general.nd rfl (Or.inl rfl) (pe_tup (pa_cons pe_str (pa_cons (pe_cx c_law_take hr.toRoom (by decide) rfl pass0 (pa_cons (pv 0) (pa_cons pe_int pa_nil))) pa_nil))))
    (Evl.pss_cut (ps_if (pt_cmpR op_eq (pe_ix ix_tup (pe_ix ix_list (pv 5) (pv 9) (fun _ _ => rfl)) pe_int (fun _ _ => rfl)) pe_str (nomark _))
    (pss_one (ps_set (i := 11) sc_law_ask_general.nd rfl (Or.inl rfl) (pe_tup (pa_cons pe_str (pa_cons (pe_op op_addI (pe_ix ix_tup (pe_ix ix_list (pv 5) (pv 9) (fun _ _ => rfl)) pe_int (fun _ _ => rfl)) pe_int) pa_nil)))))
    pss_nil)
    (pss_one (ps_ret (pe_cg c_law_ask hr (by decide) rfl pass0 (pa_cons (pe_cx c_law_changed hr.toRoom (by decide) rfl pass0 (pa_cons (pv 5) (pa_cons (pv 9) (pa_cons (pv 11) pa_nil)))) (pa_cons pe_bl pa_nil)))))))
    pss_nil)
    (pss_cons (ps_if (pt_cmpR op_eq (pv 3) pe_int (nomark _))
    (pss_one (ps_ret (pe_cg c_law_ask hr (by decide) rfl pass0 (pa_cons (pe_cx c_law_changed hr.toRoom (by decide) rfl pass0 (pa_cons (pv 5) (pa_cons (pv 9) (pa_cons (pe_ix ix_list (pv 5) (pe_ix ix_list (pv 8) (pe_cx c_law_take hr.toRoom (by decide) rfl pass0 (pa_cons (pv 0) (pa_cons (pe_callB call_lenQ (by rfl) T.f_len PySem.boot_len (pa_cons (pv 8) pa_nil)) pa_nil))) (fun _ _ => rfl)) (fun _ _ => rfl)) pa_nil)))) (pa_cons pe_bl pa_nil)))))
    pss_nil)
    (pss_cons (ps_if (pt_cmpR op_eq (pv 3) pe_int (nomark _))
    (pss_one (ps_ret (pe_cg c_law_ask hr (by decide) rfl pass0 (pa_cons (pe_cx c_law_changed hr.toRoom (by decide) rfl pass0 (pa_cons (pv 5) (pa_cons (pv 9) (pa_cons (pe_tup (pa_cons pe_str (pa_cons (pe_cx c_law_odd hr.toRoom (by decide) rfl pass0 (pa_cons (pv 0) (pa_cons (pv 1) pa_nil))) pa_nil))) pa_nil)))) (pa_cons pe_bl pa_nil)))))
    pss_nil)
    (pss_cons (ps_if (pt_cmpR op_eq (pv 3) pe_int (nomark _))
    (pss_cons (ps_set (i := 12) sc_law_ask_general.nd rfl (Or.inl rfl) (pe_ix ix_list (pe_lst (pa_cons pe_str (pa_cons pe_str pa_nil))) (pe_cx c_law_take hr.toRoom (by decide) rfl pass0 (pa_cons (pv 0) (pa_cons pe_int pa_nil))) (fun _ _ => rfl)))
    (Evl.pss_cut (ps_if (pt_cmpR op_ne (pe_ix ix_tup (pe_ix ix_list (pv 5) (pv 9) (fun _ _ => rfl)) pe_int (fun _ _ => rfl)) pe_str (nomark _))
    (pss_one (ps_set (i := 10) sc_law_ask_general.nd rfl (Or.inl rfl) (pe_ix ix_tup (pe_ix ix_list (pv 5) (pv 9) (fun _ _ => rfl)) pe_int (fun _ _ => rfl))))
    pss_nil)
    (pss_one (ps_ret (pe_cg c_law_ask hr (by decide) rfl pass0 (pa_cons (pe_cx c_law_changed hr.toRoom (by decide) rfl pass0 (pa_cons (pv 5) (pa_cons (pv 9) (pa_cons (pe_tup (pa_cons (pv 12) (pa_cons (pe_cx c_law_odd_name hr.toRoom (by decide) rfl pass0 (pa_cons (pv 0) (pa_cons (pv 12) pa_nil))) (pa_cons (pv 10) pa_nil)))) pa_nil)))) (pa_cons pe_bl pa_nil)))))))
    pss_nil)
    (pss_cons (ps_if (pt_cmpR op_eq (pv 3) pe_int (nomark _))
    (pss_cons (ps_set (i := 11) sc_law_ask_general.nd rfl (Or.inl rfl) (pe_cx c_law_with_kind hr.toRoom (by decide) rfl pass0 (pa_cons (pe_ix ix_list (pv 5) (pv 7) (fun _ _ => rfl)) (pa_cons (pe_cx c_law_odd_kind hr.toRoom (by decide) rfl pass0 (pa_cons (pv 0) (pa_cons (pv 1) pa_nil))) pa_nil))))
    (pss_one (ps_ret (pe_cg c_law_ask hr (by decide) rfl pass0 (pa_cons (pe_cx c_law_changed hr.toRoom (by decide) rfl pass0 (pa_cons (pv 5) (pa_cons (pv 7) (pa_cons (pv 11) pa_nil)))) (pa_cons pe_bl pa_nil))))))
    pss_nil)
    (pss_cons (ps_set (i := 13) sc_law_ask_general.nd rfl (Or.inl rfl) (pe_op op_addI pe_int (pe_cx c_law_take hr.toRoom (by decide) rfl pass0 (pa_cons (pv 0) (pa_cons pe_int pa_nil)))))
    (pss_cons (ps_set (i := 10) sc_law_ask_general.nd rfl (Or.inl rfl) (pe_cx c_law_long hr.toRoom (by decide) rfl pass0 (pa_cons (pv 0) (pa_cons (pv 1) (pa_cons (pv 13) pa_nil)))))
    (pss_cons (ps_set (i := 5) sc_law_ask_general.nd rfl (Or.inl rfl) (pe_cx c_law_changed hr.toRoom (by decide) rfl pass0 (pa_cons (pv 5) (pa_cons (pv 7) (pa_cons (pe_cx c_law_with_kind hr.toRoom (by decide) rfl pass0 (pa_cons (pe_ix ix_list (pv 5) (pv 7) (fun _ _ => rfl)) (pa_cons (pv 10) pa_nil))) pa_nil)))))
    (pss_one (ps_ret (pe_cg c_law_ask hr (by decide) rfl pass0 (pa_cons (pe_op op_cat (pe_op op_rep (pe_lst (pa_cons (pe_tup (pa_cons pe_str (pa_cons (pv 10) pa_nil))) pa_nil)) (pe_cx c_law_take hr.toRoom (by decide) rfl pass0 (pa_cons (pv 0) (pa_cons pe_int pa_nil)))) (pv 5)) (pa_cons (pe_cmpR op_eq (pv 13) pe_int (nomark _)) pa_nil))))))))))))))))))))))), ?_⟩
  rw [show start ["pot", "words", "pool", "way", "most", "code", "written", "place", "tips", "tip", "kind", "row", "word", "count"] [x0, x1, x2, x3] = [some x0, some x1, some x2, some x3, none, none, none, none, none, none, none, none, none, none] from rfl]
  have ec0 : Str.ofString "var" = S [118,97,114] := S_ofs (by decide +kernel)
  have ec1 : Str.ofString "const" = S [99,111,110,115,116] := S_ofs (by decide +kernel)
  have ec2 : Str.ofString "lam" = S [108,97,109] := S_ofs (by decide +kernel)
  have ec3 : Str.ofString "bound" = S [98,111,117,110,100] := S_ofs (by decide +kernel)
  have ec4 : Str.ofString "to" = S [116,111] := S_ofs (by decide +kernel)
  have ec5 : Str.ofString "odd" = S [111,100,100] := S_ofs (by decide +kernel)
  rw [ec0, ec1, ec2, ec3, ec4, ec5]
  obtain ⟨a, p, q, wy, rfl, rfl, rfl, rfl, B, hQ⟩ := h
  try dsimp only [cxOf]
  walk_at "v"
  refine ⟨_, _, rfl, a, 12, rfl, rfl, by omega, by omega, B.pot, fun v1 H1 hv1 P1 k1 => ?_⟩
  walk_at "v"
  have B1 := B.kb P1 k1
  refine w_mid (fun σ H' => Bn a p q H H' ∧ ∃ m : Nat, m ≤ 50 ∧ σ = [some (.ref a), some (.ref p), some (.ref q), some (.int (wy : Int)), some (.int (m : Int)), none, none, none, none, none, none, none, none, none]) ?_ ?_
  · walk_at "v"
    refine ⟨_, _, rfl, a, 5, rfl, rfl, by omega, by omega, P1, fun v2 H2 hv2 P2 k2 => ?_⟩
    walk_at "v"
    refine w_b (fun _ => ?_) (fun _ => ?_)
    · walk_at "v"
      exact ⟨B1.kb P2 k2, 40, by omega, rfl⟩
    · exact ⟨B1.kb P2 k2, 1 + v1, by omega, by rw [show ((1 : Int) + (v1 : Int)) = ((1 + v1 : Nat) : Int) by omega]⟩
  rintro σ H3 ⟨B3, m, hm, rfl⟩
  walk_at "v"
  refine ⟨_, _, rfl, a, 4, rfl, rfl, by omega, by omega, B3.pot, fun v4 H4 hv4 P4 k4 => ?_⟩
  walk_at "v"
  have B4 := B3.kb P4 k4
  refine B4.2.1.ix hv4 (fun x5 kd5 ok5 sz5 t5 => ?_)
  walk_at "v"
  refine ⟨_, _, _, _, _, rfl, a, p, q, kd5, m, rfl, t5, rfl, rfl, rfl, B4.pot, B4.1, B4.2.1, ok5, by omega, hm, fun r H6 c hr6 d6 vc gk wr hlen P6 k6 => ?_⟩
  have B6 := B4.kb P6 k6
  have hra : r ≠ a := Pot.ne B4.pot hr6
  have hl5 : c.length ≤ 5000 := by omega
  walk_at "v"
  refine askG d6 vc gk hl5 (fun H7 s7 => ?_)
  have B7 := B6.same s7
  have d7 := d6.same s7
  walk_at "v"
  refine ev_lst (ds := [wVAR, wCONST, wLAM].map fun w => PyData.str (S w)) (by walk_at "d") (fun l8 H8 hl8 s8 e8 => ?_)
  walk_at "v"
  refine ⟨_, _, rfl, r, l8, c, _, rfl, rfl, d7.same s8, e8, hl5, fun wl H9 js hwl s9 dw hjl hjs => ?_⟩
  have B9 := (B7.same s8).same s9
  have d9 := (d7.same s8).same s9
  have hwa : wl ≠ a := Pot.ne (B7.same s8).pot hwl
  walk_at "v"
  have hjp : 0 < js.length := by
    obtain ⟨r0, hr0, hw0⟩ := wr
    obtain ⟨i0, hi0⟩ := List.getElem?_of_mem hr0
    exact List.length_pos_of_mem ((hjs i0).mpr ⟨r0, hi0, wr_gw hw0⟩)
  refine l_len dw ?_
  rw [show (natD js).length = js.length from List.length_map ..]
  walk_at "v"
  refine ⟨_, _, rfl, a, js.length, rfl, rfl, by omega, by omega, B9.pot, fun v10 H10 hv10 P10 k10 => ?_⟩
  walk_at "v"
  have B10 := B9.kb P10 k10
  have d10 := DLkb d9 B9.pot k10 hra
  have dw10 := DLkb dw B9.pot k10 hwa
  refine l_ix dw10 (natD_at hv10) (fun x tx => ?_)
  rw [tx.num]
  obtain ⟨rj, ej, hwj⟩ := (hjs _).mp (List.getElem_mem hv10)
  generalize js[v10] = j at ej
  have hwj := gw_wr hwj
  have gj := gk rj (List.mem_of_getElem? ej)
  have hj : j < (gd c).length := by rw [gd_len]; exact (List.getElem?_eq_some_iff.mp ej).1
  walk_at "v"
  refine ev_lst (ds := [wVAR, wCONST, wBOUND].map fun w => PyData.str (S w)) (by walk_at "d") (fun l11 H11 hl11 s11 e11 => ?_)
  walk_at "v"
  refine ⟨_, _, rfl, r, l11, c, _, rfl, rfl, d10.same s11, e11, hl5, fun tl H12 ts htl s12 dt htl2 hts => ?_⟩
  have B12 := (B10.same s11).same s12
  have d12 := (d10.same s11).same s12
  have hta : tl ≠ a := Pot.ne (B10.same s11).pot htl
  have htp : 0 < ts.length := by
    obtain ⟨l, hl⟩ := tip_in vc
    obtain ⟨i0, hi0⟩ := List.getElem?_of_mem hl
    exact List.length_pos_of_mem ((hts i0).mpr ⟨_, hi0, leaf_gw l⟩)
  walk_at "v"
  refine l_len dt ?_
  rw [show (natD ts).length = ts.length from List.length_map ..]
  walk_at "v"
  refine ⟨_, _, rfl, a, ts.length, rfl, rfl, by omega, by omega, B12.pot, fun v13 H13 hv13 P13 k13 => ?_⟩
  walk_at "v"
  have B13 := B12.kb P13 k13
  have d13 := DLkb d12 B12.pot k13 hra
  have dt13 := DLkb dt B12.pot k13 hta
  refine l_ix dt13 (natD_at hv13) (fun x tx => ?_)
  rw [tx.num]
  obtain ⟨rt, et, hlt⟩ := (hts _).mp (List.getElem_mem hv13)
  obtain ⟨lt, rfl⟩ := gw_leaf hlt
  generalize ts[v13] = tp at et
  have gt := gk _ (List.mem_of_getElem? et)
  have htp2 : tp < (gd c).length := by rw [gd_len]; exact (List.getElem?_eq_some_iff.mp et).1
  walk_at "v"
  refine ⟨_, _, rfl, a, 4, rfl, rfl, by omega, by omega, B13.pot, fun v14 H14 hv14 P14 k14 => ?_⟩
  walk_at "v"
  have B14 := B13.kb P14 k14
  have d14 := DLkb d13 B13.pot k14 hra
  have dt14 := DLkb dt13 B13.pot k14 hta
  refine B14.2.1.ix hv14 (fun xk kd okd szd tk => ?_)
  walk_at "v"
  have hlg : (gd c).length ≤ 5000 := by rw [gd_len]; exact hl5
  have good : ∀ {E' : XK} {G : Hp} {p' : Addr} {c' : List G2}, Bn a p q H G → DL G p' (gd c') → Vc c' 1 → (∀ r ∈ c', r.gok) → c'.length ≤ 5000 → sp_law_ask [.ref p', .bl true] G Q E' := fun B' d' v' g' l' => askG d' v' g' l' fun H' s' => hQ H' (B'.same s').pot (B'.same s').k
  have bad : ∀ {E' : XK} {G : Hp} {p' : Addr} {i : Nat} {r0 : G2} {r' : PRow}, Bn a p q H G → c[i]? = some r0 → DL G p' ((gd c).set i r'.d) → r'.ar = (upR r0).ar → RowOk r' → RowB r' → sp_law_ask [.ref p', .bl false] G Q E' := fun {E' G p' i r0 r'} B' e' d' h1 h2 h3 => by
    obtain ⟨a1, a2, a3⟩ := set_bad vc gk e' h1 h2 h3
    refine askB (c := (c.map upR).set i r') (by rw [← cd_set]; exact d') a1 a2 a3 (by rw [List.length_set, List.length_map]; exact hl5) fun H' s' => hQ H' (B'.same s').pot (B'.same s').k
  by_cases w1 : (wy : Int) = 1
  · rw [decide_eq_true w1]
    walk_at "v"
    refine w_mid (fun σ H' => Bn a p q H H' ∧ DL H' r (gd c) ∧ ∃ (v : V) (k : Kd), GK k ∧ TD H' v k.d ∧ σ = [some (.ref a), some (.ref p), some (.ref q), some (.int (wy : Int)), some (.int (m : Int)), some (.ref r), some (.ref wl), some (.int (j : Int)), some (.ref tl), some (.int (tp : Int)), some v, none, none, none]) ?_ ?_
    · walk_at "v"
      refine ⟨_, _, rfl, a, 2, rfl, rfl, by omega, by omega, B14.pot, fun v15 H15 hv15 P15 k15 => ?_⟩
      walk_at "v"
      have B15 := B14.kb P15 k15
      have d15 := DLkb d14 B14.pot k15 hra
      have tk15 := tk.tm (Kb.pot_tm B14.pot k15)
      refine w_b (fun _ => ?_) (fun _ => ?_)
      · walk_at "v"
        refine w_tupN ?_
        walk_at "v"
        refine B15.2.1.ix (i := 0) (by omega) (fun x16 k16 ok16 sz16 t16 => ?_)
        walk_at "v"
        refine t_new (ds := [.str (S wTO), kd.d, k16.d]) (.cons (.str _) (.cons tk15 (.cons t16 .nil))) (fun p17 H17 hp17 s17 t17 => ?_)
        exact ⟨B15.same s17, d15.same s17, _, .to kd k16, ⟨⟨okd, ok16⟩, by show kd.sz + k16.sz + 1 ≤ 100; omega⟩, t17, rfl⟩
      · exact ⟨B15, d15, _, kd, ⟨okd, by omega⟩, tk15, rfl⟩
    rintro σ G ⟨BG, dG, v, k, hk, tv, rfl⟩
    walk_at "v"
    refine l_ix dG (gd_at ej) (fun xr txr => ?_)
    walk_at "v"
    refine ⟨_, _, rfl, rj, k.d, hwj, txr, tv, fun vr H16 s16 tr => ?_⟩
    obtain ⟨r', er, gr', ar'⟩ := wk_good hwj gj hk
    rw [er] at tr
    walk_at "v"
    refine ⟨_, _, _, rfl, r, gd c, j, (upR r').d, rfl, rfl, dG.same s16, tr, hj, hlg, fun rr H17 h17 s17 d17 => ?_⟩
    rw [gd_set] at d17
    walk_at "v"
    obtain ⟨b1, b2⟩ := set_good vc gk ej ar' gr'
    exact good ((BG.same s16).same s17) d17 b1 b2 (by rw [List.length_set]; exact hl5)
  rw [decide_eq_false w1]
  walk_at "v"
  by_cases w2 : (wy : Int) = 2
  · rw [decide_eq_true w2]
    walk_at "v"
    refine w_tupN ?_
    walk_at "v"
    refine ⟨_, _, rfl, a, 4, rfl, rfl, by omega, by omega, B14.pot, fun v15 H15 hv15 P15 k15 => ?_⟩
    walk_at "v"
    have B15 := B14.kb P15 k15
    have d15 := DLkb d14 B14.pot k15 hra
    refine t_new (ds := [.str (S wBOUND), .int (v15 : Int)]) (.cons (.str _) (.cons (.int _) .nil)) (fun p16 H16 hp16 s16 t16 => ?_)
    walk_at "v"
    refine w_mid (fun σ H' => Bn a p q H H' ∧ DL H' r (gd c) ∧ ∃ (v : V) (n : Nat), TD H' v (upR (.tip (.bnd n))).d ∧ σ = [some (.ref a), some (.ref p), some (.ref q), some (.int (wy : Int)), some (.int (m : Int)), some (.ref r), some (.ref wl), some (.int (j : Int)), some (.ref tl), some (.int (tp : Int)), some xk, some v, none, none]) ?_ ?_
    · walk_at "v"
      refine l_ix (d15.same s16) (gd_at et) (fun xr txr => ?_)
      walk_at "v"
      obtain ⟨rest, ed⟩ := gw_d (.tip lt)
      have txr' := txr
      rw [ed] at txr'
      refine t_ixS (n := 0) txr' rfl ?_
      walk_at "v"
      have other : decide (gw (.tip lt) = wBOUND) = true → ∃ n, lt = .bnd n := fun z => by
        have z := of_decide_eq_true z
        cases lt with
        | bnd n => exact ⟨n, rfl⟩
        | var w k => exact absurd (show wVAR = wBOUND from z) (by decide)
        | cst w k => exact absurd (show wCONST = wBOUND from z) (by decide)
      refine w_b (fun z => ?_) (fun _ => ?_)
      · obtain ⟨n, rfl⟩ := other z
        walk_at "v"
        refine w_tupN ?_
        walk_at "v"
        refine l_ix (d15.same s16) (gd_at et) (fun xr2 txr2 => ?_)
        walk_at "v"
        have txr2 : TD H16 xr2 (.tuple [.str (S wBOUND), .int (n : Int)]) := txr2
        refine t_ixI (n := 1) txr2 rfl ?_
        walk_at "v"
        rw [show ((n : Int) + 1) = ((n + 1 : Nat) : Int) by omega]
        refine t_new (ds := [.str (S wBOUND), .int ((n + 1 : Nat) : Int)]) (.cons (.str _) (.cons (.int _) .nil)) (fun p17 H17 hp17 s17 t17 => ?_)
        exact ⟨(B15.same s16).same s17, (d15.same s16).same s17, _, n + 1, t17, rfl⟩
      · exact ⟨B15.same s16, d15.same s16, _, v15, t16, rfl⟩
    rintro σ G ⟨BG, dG, v, n, tv, rfl⟩
    walk_at "v"
    refine ⟨_, _, _, rfl, r, gd c, tp, (upR (.tip (.bnd n))).d, rfl, rfl, dG, tv, htp2, hlg, fun rr H17 h17 s17 d17 => ?_⟩
    rw [gd_set] at d17
    walk_at "v"
    obtain ⟨b1, b2⟩ := set_good (r' := .tip (.bnd n)) vc gk et rfl trivial
    exact good (BG.same s17) d17 b1 b2 (by rw [List.length_set]; exact hl5)
  rw [decide_eq_false w2]
  walk_at "v"
  by_cases w3 : (wy : Int) = 3
  · rw [decide_eq_true w3]
    walk_at "v"
    refine l_len dt14 ?_
    rw [show (natD ts).length = ts.length from List.length_map ..]
    walk_at "v"
    refine ⟨_, _, rfl, a, ts.length, rfl, rfl, by omega, by omega, B14.pot, fun v15 H15 hv15 P15 k15 => ?_⟩
    walk_at "v"
    have B15 := B14.kb P15 k15
    have d15 := DLkb d14 B14.pot k15 hra
    refine l_ix (DLkb dt14 B14.pot k15 hta) (natD_at hv15) (fun x tx => ?_)
    rw [tx.num]
    obtain ⟨ro, eo, hlo⟩ := (hts _).mp (List.getElem_mem hv15)
    obtain ⟨lo, rfl⟩ := gw_leaf hlo
    generalize ts[v15] = to at eo
    walk_at "v"
    refine l_ix d15 (gd_at eo) (fun xr txr => ?_)
    walk_at "v"
    refine ⟨_, _, _, rfl, r, gd c, tp, (upR (.tip lo)).d, rfl, rfl, d15, txr, htp2, hlg, fun rr H17 h17 s17 d17 => ?_⟩
    rw [gd_set] at d17
    walk_at "v"
    obtain ⟨b1, b2⟩ := set_good (r' := .tip lo) vc gk et rfl (gk _ (List.mem_of_getElem? eo))
    exact good (B15.same s17) d17 b1 b2 (by rw [List.length_set]; exact hl5)
  rw [decide_eq_false w3]
  walk_at "v"
  by_cases w4 : (wy : Int) = 4
  · rw [decide_eq_true w4]
    walk_at "v"
    refine w_tupN ?_
    walk_at "v"
    refine ⟨_, _, rfl, a, p, rfl, rfl, B14.pot, B14.1, fun vo H15 do_ hLB to P15 k15 => ?_⟩
    have B15 := B14.kb P15 k15
    have d15 := DLkb d14 B14.pot k15 hra
    walk_at "v"
    refine t_new (ds := [.str (S wODD), do_]) (.cons (.str _) (.cons to .nil)) (fun p16 H16 hp16 s16 t16 => ?_)
    walk_at "v"
    refine ⟨_, _, _, rfl, r, gd c, tp, Rw.d (.tip (.odd do_)), rfl, rfl, d15.same s16, t16, htp2, hlg, fun rr H17 h17 s17 d17 => ?_⟩
    walk_at "v"
    exact bad ((B15.same s16).same s17) et d17 rfl trivial hLB
  rw [decide_eq_false w4]
  walk_at "v"
  by_cases w5 : (wy : Int) = 5
  · rw [decide_eq_true w5]
    walk_at "v"
    refine ev_lst (ds := [wVAR, wCONST].map fun w => PyData.str (S w)) (by walk_at "d") (fun l15 H15 hl15 s15 d15 => ?_)
    walk_at "v"
    have B15 := B14.same s15
    refine ⟨_, _, rfl, a, 2, rfl, rfl, by omega, by omega, B15.pot, fun v16 H16 hv16 P16 k16 => ?_⟩
    walk_at "v"
    have B16 := B15.kb P16 k16
    have hl15a : l15 ≠ a := Pot.ne B14.pot hl15
    have hv16' : v16 < [wVAR, wCONST].length := hv16
    refine l_ix (DLkb d15 B15.pot k16 hl15a) (d := .str (S [wVAR, wCONST][v16])) (by rw [List.getElem?_map, List.getElem?_eq_getElem hv16']; rfl) (fun x17 tx17 => ?_)
    rw [tx17.txt]
    have hW : [wVAR, wCONST][v16] = wVAR ∨ [wVAR, wCONST][v16] = wCONST := by
      match v16, hv16' with
      | 0, _ => exact .inl rfl
      | 1, _ => exact .inr rfl
    generalize [wVAR, wCONST][v16] = W at hW
    have d16 := DLkb (d14.same s15) B15.pot k16 hra
    have tk16 := (tk.tm (Tm.same s15)).tm (Kb.pot_tm B15.pot k16)
    walk_at "v"
    refine w_mid (fun σ H' => Bn a p q H H' ∧ DL H' r (gd c) ∧ ∃ (v : V) (d : PyData), TD H' v d ∧ σ = [some (.ref a), some (.ref p), some (.ref q), some (.int (wy : Int)), some (.int (m : Int)), some (.ref r), some (.ref wl), some (.int (j : Int)), some (.ref tl), some (.int (tp : Int)), some v, none, some (.str (S W)), none]) ?_ ?_
    · walk_at "v"
      refine l_ix d16 (gd_at et) (fun xr txr => ?_)
      walk_at "v"
      obtain ⟨rest, ed⟩ := gw_d (.tip lt)
      have txr' := txr
      rw [ed] at txr'
      refine t_ixS (n := 0) txr' rfl ?_
      walk_at "v"
      have keep := (⟨B16, d16, xk, kd.d, tk16, rfl⟩ : Bn a p q H H16 ∧ DL H16 r (gd c) ∧ ∃ (v : V) (d : PyData), TD H16 v d ∧ [some (.ref a), some (.ref p), some (.ref q), some (.int (wy : Int)), some (.int (m : Int)), some (.ref r), some (.ref wl), some (.int (j : Int)), some (.ref tl), some (.int (tp : Int)), some xk, none, some (.str (S W)), none] = [some (.ref a), some (.ref p), some (.ref q), some (.int (wy : Int)), some (.int (m : Int)), some (.ref r), some (.ref wl), some (.int (j : Int)), some (.ref tl), some (.int (tp : Int)), some v, none, some (.str (S W)), none])
      cases lt with
      | bnd n =>
        rw [show (!decide (gw (.tip (.bnd n)) = [98, 111, 117, 110, 100])) = false from (show (!decide (wBOUND = [98, 111, 117, 110, 100])) = false by decide)]
        exact keep
      | var w k =>
        rw [show (!decide (gw (.tip (.var w k)) = [98, 111, 117, 110, 100])) = true from (show (!decide (wVAR = [98, 111, 117, 110, 100])) = true by decide)]
        walk_at "v"
        refine l_ix d16 (gd_at et) (fun xr2 txr2 => ?_)
        walk_at "v"
        have txr2 : TD H16 xr2 (.tuple [.str (S wVAR), .str (S w), k.d]) := txr2
        refine t_ix (n := 2) txr2 rfl (fun xk2 txk2 => ?_)
        exact ⟨B16, d16, _, _, txk2, rfl⟩
      | cst w k =>
        rw [show (!decide (gw (.tip (.cst w k)) = [98, 111, 117, 110, 100])) = true from (show (!decide (wCONST = [98, 111, 117, 110, 100])) = true by decide)]
        walk_at "v"
        refine l_ix d16 (gd_at et) (fun xr2 txr2 => ?_)
        walk_at "v"
        have txr2 : TD H16 xr2 (.tuple [.str (S wCONST), .str (S w), k.d]) := txr2
        refine t_ix (n := 2) txr2 rfl (fun xk2 txk2 => ?_)
        exact ⟨B16, d16, _, _, txk2, rfl⟩
    rintro σ G ⟨BG, dG, v, dk, tv, rfl⟩
    walk_at "v"
    refine w_tupN ?_
    walk_at "v"
    rcases hW with rfl | rfl
    · refine ⟨_, _, rfl, a, rfl, BG.pot, .inl ⟨rfl, fun vn H17 dn hn tn P17 k17 => ?_⟩⟩
      have B17 := BG.kb P17 k17
      have d17 := DLkb dG BG.pot k17 hra
      walk_at "v"
      refine t_new (ds := [.str (S wVAR), dn, dk]) (.cons (.str _) (.cons tn (.cons (tv.tm (Kb.pot_tm BG.pot k17)) .nil))) (fun p18 H18 hp18 s18 t18 => ?_)
      walk_at "v"
      refine ⟨_, _, _, rfl, r, gd c, tp, Rw.d (.tip (.tip (.tuple [.str (S wVAR), dn, dk]))), rfl, rfl, d17.same s18, t18, htp2, hlg, fun rr H19 h19 s19 d19 => ?_⟩
      walk_at "v"
      exact bad ((B17.same s18).same s19) et d19 rfl ⟨_, _, rfl, by decide, by decide, by decide⟩ (hn dk)
    · refine ⟨_, _, rfl, a, rfl, BG.pot, .inr ⟨rfl, fun vn H17 dn hn tn P17 k17 => ?_⟩⟩
      have B17 := BG.kb P17 k17
      have d17 := DLkb dG BG.pot k17 hra
      walk_at "v"
      refine t_new (ds := [.str (S wCONST), dn, dk]) (.cons (.str _) (.cons tn (.cons (tv.tm (Kb.pot_tm BG.pot k17)) .nil))) (fun p18 H18 hp18 s18 t18 => ?_)
      walk_at "v"
      refine ⟨_, _, _, rfl, r, gd c, tp, Rw.d (.tip (.tip (.tuple [.str (S wCONST), dn, dk]))), rfl, rfl, d17.same s18, t18, htp2, hlg, fun rr H19 h19 s19 d19 => ?_⟩
      walk_at "v"
      exact bad ((B17.same s18).same s19) et d19 rfl ⟨_, _, rfl, by decide, by decide, by decide⟩ (hn dk)
  rw [decide_eq_false w5]
  walk_at "v"
  by_cases w6 : (wy : Int) = 6
  · rw [decide_eq_true w6]
    walk_at "v"
    refine l_ix d14 (gd_at ej) (fun xr txr => ?_)
    walk_at "v"
    refine ⟨_, _, rfl, a, p, rfl, rfl, B14.pot, B14.1, fun vo H15 dk hBK to P15 k15 => ?_⟩
    have B15 := B14.kb P15 k15
    have d15 := DLkb d14 B14.pot k15 hra
    walk_at "v"
    refine ⟨_, _, rfl, rj, dk, hwj, txr.tm (Kb.pot_tm B14.pot k15), to, fun vr H16 s16 tr => ?_⟩
    walk_at "v"
    refine ⟨_, _, _, rfl, r, gd c, j, (wkR rj dk).d, rfl, rfl, d15.same s16, tr, hj, hlg, fun rr H17 h17 s17 d17 => ?_⟩
    walk_at "v"
    exact bad ((B15.same s16).same s17) ej d17 (wk_row hwj).2 (wk_row hwj).1 (wk_bad hwj gj (.bad hBK))
  rw [decide_eq_false w6]
  walk_at "v"
  refine ⟨_, _, rfl, a, 2, rfl, rfl, by omega, by omega, B14.pot, fun v15 H15 hv15 P15 k15 => ?_⟩
  walk_at "v"
  have B15 := B14.kb P15 k15
  have d15 := DLkb d14 B14.pot k15 hra
  rw [show ((50 : Int) + (v15 : Int)) = ((50 + v15 : Nat) : Int) by omega]
  refine ⟨_, _, _, rfl, a, p, 50 + v15, rfl, rfl, rfl, by omega, by omega, B15.pot, B15.1, fun vk H16 k16d ok16 sz16 tk16 P16 k16 => ?_⟩
  have B16 := B15.kb P16 k16
  have d16 := DLkb d15 B15.pot k16 hra
  walk_at "v"
  refine l_ix d16 (gd_at ej) (fun xr txr => ?_)
  walk_at "v"
  refine ⟨_, _, rfl, rj, k16d.d, hwj, txr, tk16, fun vr H17 s17 tr => ?_⟩
  walk_at "v"
  refine ⟨_, _, _, rfl, r, gd c, j, (wkR rj k16d.d).d, rfl, rfl, d16.same s17, tr, hj, hlg, fun rr H18 h18 s18 d18 => ?_⟩
  have B18 := (B16.same s17).same s18
  have hrra : rr ≠ a := Pot.ne (B16.same s17).pot h18
  rw [gd_map, cd_set] at d18
  have tk18 := (tk16.tm (Tm.same s17)).tm (Tm.same s18)
  walk_at "v"
  refine ev_lst (ds := [Rw.d (.lam k16d.d)]) (eva_cons (ev_tup (eva_cons ev_str (eva_cons (ev_var rfl tk18) eva_nil))) eva_nil) (fun l19 H19 h19 s19 d19 => ?_)
  walk_at "v"
  have B19 := B18.same s19
  have h19a : l19 ≠ a := Pot.ne B18.pot h19
  refine ⟨_, _, rfl, a, 3, rfl, rfl, by omega, by omega, B19.pot, fun v20 H20 hv20 P20 k20 => ?_⟩
  walk_at "v"
  have B20 := B19.kb P20 k20
  refine l_rep (DLkb d19 B19.pot k20 h19a) (fun l21 H21 h21 s21 d21 => ?_) (by show 1 * v20 ≤ 100000; omega)
  walk_at "v"
  refine l_cat d21 ((DLkb (d18.same s19) B19.pot k20 hrra).same s21) (fun l22 H22 h22 s22 d22 => ?_) (by rw [cd_len, List.length_set, List.length_map, List.flatten_replicate_singleton, List.length_replicate]; omega)
  have B22 := (B20.same s21).same s22
  rw [List.flatten_replicate_singleton, ← cd_rep, ← cd_app] at d22
  walk_at "v"
  by_cases e0 : v15 = 0
  · subst e0
    rw [show decide (((50 + 0 : Nat) : Int) = 50) = true from by decide]
    have hk : GK k16d := ⟨ok16, by omega⟩
    obtain ⟨r', er, gr', ar'⟩ := wk_good hwj gj hk
    obtain ⟨b1, b2⟩ := set_good vc gk ej ar' gr'
    rw [er] at d22
    refine good (c' := List.replicate v20 (.lam k16d) ++ c.set j r') B22 ?_ (b1.lams _ _) (fun x hx => ?_) (by rw [List.length_append, List.length_replicate, List.length_set]; omega)
    · rw [gd_map, List.map_append, List.map_replicate, List.map_set]; exact d22
    · rcases List.mem_append.mp hx with hx | hx
      · rw [List.eq_of_mem_replicate hx]; exact hk
      · exact b2 x hx
  · have e1 : v15 = 1 := by omega
    subst e1
    rw [show decide (((50 + 1 : Nat) : Int) = 50) = false from by decide]
    have hkf : KF k16d.d false := by
      have := KF.good (k16d.vk ok16)
      rwa [decide_eq_false (by omega)] at this
    obtain ⟨a1, a2, r0, hr0, hb0⟩ := set_bad vc gk ej (wk_row hwj).2 (wk_row hwj).1 (wk_bad hwj gj hkf)
    refine askB d22 (a1.lams _ _) (fun x hx => ?_) ⟨r0, List.mem_append_right _ hr0, hb0⟩ (by rw [List.length_append, List.length_replicate, List.length_set, List.length_map]; omega) fun H' s' => hQ H' (B22.same s').pot (B22.same s').k
    rcases List.mem_append.mp hx with hx | hx
    · rw [List.eq_of_mem_replicate hx]; exact ⟨trivial, false, hkf⟩
    · exact a2 x hx
end
end K02

namespace K02
open PySem PySem.Spec PyProof.Rows L2 SX
local macro_rules | `(tactic| walk_at "w1") => `(tactic| (first
  | with_reducible refine w_seq ?_ | with_reducible refine w_asgN ?_ | with_reducible refine w_c ?_
  | ((with_reducible refine' w_var ?wv ?_); (case wv => exact rfl))
  | with_reducible refine w_op ?_ | with_reducible refine w_un ?_ | with_reducible refine w_next ?_ | with_reducible refine w_brk ?_ | with_reducible refine w_cnt ?_
  | with_reducible refine w_ifS ?_ | with_reducible refine w_if ?_ | with_reducible refine w_test ?_ | with_reducible refine w_tB ?_ | with_reducible refine w_bl ?_ | with_reducible refine w_blI ?_
  | with_reducible refine w_and ?_ | with_reducible refine w_or ?_ | with_reducible refine w_not ?_ | with_reducible refine w_andV ?_ | with_reducible refine w_orV ?_ | with_reducible refine w_notV ?_
  | with_reducible refine w_nil ?_ | with_reducible refine w_cons ?_ | with_reducible refine w_cb ?_ | with_reducible refine w_call ?_ | with_reducible refine w_callS ?_ | with_reducible refine w_chain ?_
  | with_reducible refine w_tupN ?_ | with_reducible refine w_lstN ?_ | with_reducible refine w_sl ?_ | with_reducible refine w_noPart ?_ | with_reducible refine w_part ?_ | with_reducible refine w_partI ?_
  | with_reducible refine w_ret ?_ | with_reducible refine w_retN ?_ | with_reducible refine w_drop ?_ | with_reducible refine w_asg ?_ | with_reducible refine w_gSub ?_
  | ((with_reducible refine' w_aug ?wv ?_); (case wv => exact rfl)) | with_reducible refine w_ipI ?_
  | with_reducible refine w_addI ?_ | with_reducible refine w_subI ?_ | with_reducible refine w_ltI ?_ | with_reducible refine w_leI ?_ | with_reducible refine w_gtI ?_ | with_reducible refine w_geI ?_
  | with_reducible refine w_eqI ?_ | with_reducible refine w_neI ?_ | with_reducible refine w_eqT ?_ | with_reducible refine w_neT ?_ | with_reducible refine w_inS ?_ | with_reducible refine w_ninS ?_
  | with_reducible refine w_absI ?_ | with_reducible refine w_intI ?_ | with_reducible refine w_maxI ?_ | with_reducible refine w_minI ?_
  | with_reducible refine w_for ?_ | with_reducible refine w_iR1 ?_ | with_reducible refine w_iR2 ?_ | with_reducible refine w_iStr ?_ | with_reducible refine w_strI ?_ | with_reducible refine w_iList ?_ | with_reducible refine w_iTup ?_
  | with_reducible refine w_bm ?_ | with_reducible refine w_bm0 ?_ | with_reducible refine w_t ?_ | with_reducible refine w_f ?_ | with_reducible refine w_nt ?_ | with_reducible refine w_nx ?_ | with_reducible refine w_rt ?_ | with_reducible refine w_bk ?_ | with_reducible refine w_ct ?_ | with_reducible refine w_nf ?_ | with_reducible refine w_lc ?_ | with_reducible refine w_yes ?_ | with_reducible refine w_neg ?_ | with_reducible refine w_intB ?_ | with_reducible refine w_fld ?_ | with_reducible refine w_setf ?_ | with_reducible refine w_faug ?_ | with_reducible refine w_meth ?_ | with_reducible refine w_bmS ?_ | with_reducible refine w_start ?_ | with_reducible refine w_revL ?_ | with_reducible refine w_iR3 ?_))
local macro_rules | `(tactic| walk_at "w") => `(tactic| (repeat (first | walk_at "w1" | dsimp (config := { proj := false }) only [List.set_cons_zero, List.set_cons_succ])))
section
variable {w : World} {K : PySem.W.Frag} {mg : Str → Option Value} {base : Heap}

theorem ev_ixL {H0 : Hp} {σ : L2.St} {i n : Nat} {p : Addr} {ds : List PyData} {d : PyData} (e : σ[i]? = some (some (.ref p))) (h : DL H0 p ds) (g : ds[n]? = some d) : Ev H0 (tOp (rIxL K) (tVar i) (tC (.int (n : Int)))) σ d := fun H Q s k => w_op (w_var e (w_c (l_ix (h.same s) g fun x tx => k _ _ (Same.refl' H) tx)))
local macro_rules | `(tactic| walk_at "v1") => `(tactic| (first
  | with_reducible refine w_seq ?_ | with_reducible refine w_asgN ?_ | with_reducible refine w_c ?_
  | ((with_reducible refine' w_var ?wv ?_); (case wv => exact rfl))
  | with_reducible refine w_op ?_ | with_reducible refine w_un ?_ | with_reducible refine w_next ?_ | with_reducible refine w_brk ?_ | with_reducible refine w_cnt ?_
  | with_reducible refine w_ifS ?_ | with_reducible refine w_if ?_ | with_reducible refine w_test ?_ | with_reducible refine w_tB ?_ | with_reducible refine w_bl ?_ | with_reducible refine w_blI ?_
  | with_reducible refine w_and ?_ | with_reducible refine w_or ?_ | with_reducible refine w_not ?_ | with_reducible refine w_andV ?_ | with_reducible refine w_orV ?_ | with_reducible refine w_notV ?_
  | with_reducible refine w_nil ?_ | with_reducible refine w_cons ?_ | with_reducible refine w_cb ?_ | with_reducible refine w_call ?_ | with_reducible refine w_callS ?_ | with_reducible refine w_chain ?_
  | with_reducible refine w_sl ?_ | with_reducible refine w_noPart ?_ | with_reducible refine w_part ?_ | with_reducible refine w_partI ?_
  | with_reducible refine w_ret ?_ | with_reducible refine w_retN ?_ | with_reducible refine w_drop ?_ | with_reducible refine w_asg ?_ | with_reducible refine w_gSub ?_
  | ((with_reducible refine' w_aug ?wv ?_); (case wv => exact rfl)) | with_reducible refine w_ipI ?_
  | with_reducible refine w_addI ?_ | with_reducible refine w_subI ?_ | with_reducible refine w_ltI ?_ | with_reducible refine w_leI ?_ | with_reducible refine w_gtI ?_ | with_reducible refine w_geI ?_
  | with_reducible refine w_eqI ?_ | with_reducible refine w_neI ?_ | with_reducible refine w_eqT ?_ | with_reducible refine w_neT ?_ | with_reducible refine w_inS ?_ | with_reducible refine w_ninS ?_
  | with_reducible refine w_absI ?_ | with_reducible refine w_intI ?_ | with_reducible refine w_maxI ?_ | with_reducible refine w_minI ?_
  | with_reducible refine w_for ?_ | with_reducible refine w_iR1 ?_ | with_reducible refine w_iR2 ?_ | with_reducible refine w_iStr ?_ | with_reducible refine w_strI ?_ | with_reducible refine w_iList ?_ | with_reducible refine w_iTup ?_
  | with_reducible refine w_bm ?_ | with_reducible refine w_bm0 ?_ | with_reducible refine w_t ?_ | with_reducible refine w_f ?_ | with_reducible refine w_nt ?_ | with_reducible refine w_nx ?_ | with_reducible refine w_rt ?_ | with_reducible refine w_bk ?_ | with_reducible refine w_ct ?_ | with_reducible refine w_nf ?_ | with_reducible refine w_lc ?_ | with_reducible refine w_yes ?_ | with_reducible refine w_neg ?_ | with_reducible refine w_intB ?_ | with_reducible refine w_fld ?_ | with_reducible refine w_setf ?_ | with_reducible refine w_faug ?_ | with_reducible refine w_meth ?_ | with_reducible refine w_bmS ?_ | with_reducible refine w_start ?_ | with_reducible refine w_revL ?_ | with_reducible refine w_iR3 ?_))
local macro_rules | `(tactic| walk_at "v") => `(tactic| (repeat (first | walk_at "v1" | dsimp (config := { proj := false }) only [List.set_cons_zero, List.set_cons_succ])))
local macro_rules | `(tactic| walk_at "d") => `(tactic| (repeat (first | exact ev_ixL (n := 0) rfl (by assumption) rfl | exact ev_ixL (n := 1) rfl (by assumption) rfl | exact ev_ixL (n := 2) rfl (by assumption) rfl | exact ev_ixL (n := 3) rfl (by assumption) rfl | exact eva_nil | refine eva_cons ?_ ?_ | exact ev_str | exact ev_int | exact ev_neg | refine ev_tup ?_ | (refine ev_var rfl ?_; assumption))))


theorem NmL.four {H : Hp} {p : Addr} (h : NmL H p) : ∃ w0 w1 w2 w3 : List Nat, DL H p [.str (S w0), .str (S w1), .str (S w2), .str (S w3)] ∧ isName w0 = true ∧ isName w1 = true ∧ isName w2 = true ∧ isName w3 = true := by
  obtain ⟨ws, d, l, n⟩ := h
  match ws, l, d, n with
  | [w0, w1, w2, w3], _, d, n => exact ⟨w0, w1, w2, w3, d, n _ (by simp), n _ (by simp), n _ (by simp), n _ (by simp)⟩
theorem gd_app (c e : List G2) : gd (c ++ e) = gd c ++ gd e := by unfold gd; rw [List.map_append, cd_app]
theorem gd_rep (n : Nat) (c : List G2) : (List.replicate n (gd c)).flatten = gd (List.replicate n c).flatten := by
  induction n with
  | zero => rfl
  | succ n ih => rw [List.replicate_succ, List.replicate_succ, List.flatten_cons, List.flatten_cons, gd_app, ih]
theorem Vc.hops {κ τ : Type} {c : List (Rw κ τ)} (h : Vc c 1) (x : τ) : ∀ n, Vc ((List.replicate n [.app, .tip x]).flatten ++ c) 1
  | 0 => h
  | n + 1 => Vc.app (n := 0) (Vc.tip (h.hops x n))
theorem Vc.reds {κ τ : Type} (k : κ) : ∀ (n : Nat) {m : Nat} {c : List (Rw κ τ)}, Vc c (m + 1 + n) → Vc ((List.replicate n [.app, .lam k]).flatten ++ c) (m + 1)
  | 0, m, c, h => h
  | n + 1, m, c, h => Vc.app (n := m) (Vc.lam (n := m + 1) (Vc.reds k n (m := m + 1) (by rw [show m + 1 + 1 + n = m + 1 + (n + 1) by omega]; exact h)))
theorem Vc.tips {κ τ : Type} (x : τ) : ∀ n, Vc (κ := κ) (List.replicate n (.tip x)) n
  | 0 => Vc.nil
  | n + 1 => Vc.tip (Vc.tips x n)
theorem flat_rep {α : Type} (l : List α) : ∀ n, ∀ x ∈ (List.replicate n l).flatten, x ∈ l
  | 0, x, h => by cases h
  | n + 1, x, h => by
    rw [List.replicate_succ, List.flatten_cons] at h
    exact (List.mem_append.mp h).elim id (flat_rep l n x)
theorem flat_len {α : Type} (l : List α) : ∀ n, (List.replicate n l).flatten.length = n * l.length
  | 0 => by simp
  | n + 1 => by rw [List.replicate_succ, List.flatten_cons, List.length_append, flat_len l n, Nat.succ_mul, Nat.add_comm]
def sp_law_deep : Sp := sp2 fun x y H Q _ => ∃ (a p : Addr), x = .ref a ∧ y = .ref p ∧ Pot a H ∧ NmL H p ∧
  ∀ r H' (c : List G2), H r = none → DL H' r (gd c) → Vc c 1 → (∀ r ∈ c, r.gok) → c.length ≤ 1000 → Pot a H' → Kb a H H' → Q (.ref r) H'
theorem ok_law_deep (T : Txt w K mg) {fd : FuncData} (F : Fn_law_deep K fd) (hm : mg "_law_deep" = some (.ref (He.ga K "_law_deep"))) (c_law_take : CalX P w K mg base CX0 1 "_law_take" sp_law_take) : CalX P w K mg base CX0 2 "_law_deep" sp_law_deep := by
  refine calx0 (k := 1) F hm sc_law_deep (b_law_deep F) (fun _ _ _ _ h => sp2_len h) (fun cdv A outer s H vs Q E hr h => ?_)
  obtain ⟨x0, x1, rfl, h⟩ := h
  refine ⟨_, (pss_cons (ps_set (i := 2) sc_law_deep.nd rfl (Or.inl rfl) (pe_tup (pa_cons pe_str (pa_cons (pe_ix ix_list (pv 1) pe_int (fun _ _ => rfl)) pa_nil))))
    (pss_cons (ps_set (i := 3) sc_law_deep.nd rfl (Or.inl rfl) (pe_op op_addI pe_int (pe_cx c_law_take hr (by decide) rfl pass0 (pa_cons (pv 0) (pa_cons pe_int pa_nil)))))
    (pss_cons (ps_set (i := 4) sc_law_deep.nd rfl (Or.inl rfl) (pe_cx c_law_take hr (by decide) rfl pass0 (pa_cons (pv 0) (pa_cons (pv 3) pa_nil))))
    (pss_cons (ps_set (i := 5) sc_law_deep.nd rfl (Or.inl rfl) (pe_cx c_law_take hr (by decide) rfl pass0 (pa_cons (pv 0) (pa_cons (pe_op op_addI (pe_op op_divI (pe_op op_subI (pe_op op_subI (pv 3) pe_int) (pv 4)) pe_int) pe_int) pa_nil))))
    (pss_cons (ps_set (i := 6) sc_law_deep.nd rfl (Or.inl rfl) (pe_op op_subI (pe_op op_subI (pe_op op_subI (pv 3) pe_int) (pv 4)) (pe_op op_mulI pe_int (pv 5))))
    (pss_cons (ps_set (i := 7) sc_law_deep.nd rfl (Or.inl rfl) (pe_tup (pa_cons pe_str (pa_cons (pe_ix ix_list (pv 1) pe_int (fun _ _ => rfl)) (pa_cons (pv 2) pa_nil)))))
    (Evl.pss_cut (ps_if (pt_cmpR op_eq (pe_cx c_law_take hr (by decide) rfl pass0 (pa_cons (pv 0) (pa_cons pe_int pa_nil))) pe_int (nomark _))
    (pss_one (ps_set (i := 7) sc_law_deep.nd rfl (Or.inl rfl) (pe_tup (pa_cons pe_str (pa_cons (pe_cx c_law_take hr (by decide) rfl pass0 (pa_cons (pv 0) (pa_cons (pe_op op_addI (pe_op op_addI (pv 4) (pv 5)) pe_int) pa_nil))) pa_nil)))))
    pss_nil)
    (pss_cons (ps_set (i := 8) sc_law_deep.nd rfl (Or.inl rfl) (pe_op op_cat (pe_op op_rep (pe_lst (pa_cons (pe_tup (pa_cons pe_str pa_nil)) (pa_cons (pe_tup (pa_cons pe_str (pa_cons (pe_ix ix_list (pv 1) pe_int (fun _ _ => rfl)) (pa_cons (pe_tup (pa_cons pe_str (pa_cons (pv 2) (pa_cons (pv 2) pa_nil)))) pa_nil)))) pa_nil))) (pv 6)) (pe_lst (pa_cons (pv 7) pa_nil))))
    (pss_cons (ps_set (i := 8) sc_law_deep.nd rfl (Or.inl rfl) (pe_op op_cat (pe_op op_cat (pe_op op_rep (pe_lst (pa_cons (pe_tup (pa_cons pe_str pa_nil)) (pa_cons (pe_tup (pa_cons pe_str (pa_cons (pv 2) pa_nil))) pa_nil))) (pv 5)) (pv 8)) (pe_op op_rep (pe_lst (pa_cons (pe_tup (pa_cons pe_str (pa_cons (pe_ix ix_list (pv 1) pe_int (fun _ _ => rfl)) (pa_cons (pv 2) pa_nil)))) pa_nil)) (pv 5))))
    (pss_one (ps_ret (pe_op op_cat (pe_op op_rep (pe_lst (pa_cons (pe_tup (pa_cons pe_str (pa_cons (pv 2) pa_nil))) pa_nil)) (pv 4)) (pv 8))))))))))))), ?_⟩
  rw [show start ["pot", "words", "base", "total", "lams", "redexes", "hops", "row", "code"] [x0, x1] = [some x0, some x1, none, none, none, none, none, none, none] from rfl]
  have ec0 : Str.ofString "named" = S [110,97,109,101,100] := S_ofs (by decide +kernel)
  have ec1 : Str.ofString "var" = S [118,97,114] := S_ofs (by decide +kernel)
  have ec2 : Str.ofString "bound" = S [98,111,117,110,100] := S_ofs (by decide +kernel)
  have ec3 : Str.ofString "app" = S [97,112,112] := S_ofs (by decide +kernel)
  have ec4 : Str.ofString "const" = S [99,111,110,115,116] := S_ofs (by decide +kernel)
  have ec5 : Str.ofString "lam" = S [108,97,109] := S_ofs (by decide +kernel)
  have ec6 : Str.ofString "to" = S [116,111] := S_ofs (by decide +kernel)
  rw [ec0, ec1, ec2, ec3, ec4, ec5, ec6]
  obtain ⟨a, p, rfl, rfl, hP, hW, hQ⟩ := h
  have hpa : p ≠ a := hW.ne hP
  obtain ⟨w0, w1, w2, w3, dW, n0, n1, n2, n3⟩ := hW.four
  try dsimp only [cxOf]
  walk_at "v"
  refine ev_go (d := (Kd.nm w0).d) (by walk_at "d") (fun x2 H2 s2 t2 => ?_)
  have P2 := hP.same s2
  have dW2 := dW.same s2
  have K2 : Kb a H H2 := Kb.same s2
  walk_at "v"
  refine ⟨_, _, rfl, a, 5, rfl, rfl, by omega, by omega, P2, fun v3 H3 hv3 P3 k3 => ?_⟩
  walk_at "v"
  rw [show ((48 : Int) + (v3 : Int)) = ((48 + v3 : Nat) : Int) by omega]
  generalize hT : 48 + v3 = T
  have hT1 : 48 ≤ T ∧ T ≤ 52 := by omega
  have dW3 := DLkb dW2 P2 k3 hpa
  have t3 := t2.tm (Kb.pot_tm P2 k3)
  refine ⟨_, _, rfl, a, T, rfl, rfl, by omega, by omega, P3, fun v4 H4 hv4 P4 k4 => ?_⟩
  walk_at "v"
  have dW4 := DLkb dW3 P3 k4 hpa
  have t4 := t3.tm (Kb.pot_tm P3 k4)
  have hv4 : v4 < T := hv4
  refine w_divI ⟨by omega, by omega⟩ ?_
  walk_at "v"
  obtain ⟨R, hR, hR2⟩ : ∃ R : Nat, ((T : Int) - 1 - (v4 : Int)) / 2 = (R : Int) ∧ 2 * R ≤ T - 1 - v4 := ⟨(T - 1 - v4) / 2, by omega, by omega⟩
  rw [hR, show ((R : Int) + 1) = ((R + 1 : Nat) : Int) by omega]
  refine ⟨_, _, rfl, a, (R + 1), rfl, rfl, by omega, by omega, P4, fun v5 H5 hv5 P5 k5 => ?_⟩
  walk_at "v"
  have hv5 : v5 < R + 1 := hv5
  refine w_mulI (.inl (by omega)) ?_
  obtain ⟨N, hN, hN2⟩ : ∃ N : Nat, ((T : Int) - 1 - (v4 : Int)) - 2 * (v5 : Int) = (N : Int) ∧ N ≤ 52 := ⟨T - 1 - v4 - 2 * v5, by omega, by omega⟩
  walk_at "v"
  rw [hN]
  have dW5 := DLkb dW4 P4 k5 hpa
  have t5 := t4.tm (Kb.pot_tm P4 k5)
  refine ev_go (d := (upR (.tip (.var w1 (.nm w0)))).d) (by walk_at "d") (fun x6 H6 s6 t6 => ?_)
  have P6 := P5.same s6
  have dW6 := dW5.same s6
  have t56 := t5.tm (Tm.same s6)
  have k06 : Kb a H H6 := (((K2.tr k3).tr k4).tr k5).then s6
  walk_at "v"
  refine w_mid (fun σ H' => ∃ (v : V) (l : Lf), l.ok ∧ TD H' v (upR (.tip l)).d ∧ Pot a H' ∧ Kb a H6 H' ∧ σ = [some (.ref a), some (.ref p), some x2, some (.int (T : Int)), some (.int (v4 : Int)), some (.int (v5 : Int)), some (.int (N : Int)), some v, none]) ?_ ?_
  · walk_at "v"
    refine ⟨_, _, rfl, a, 2, rfl, rfl, by omega, by omega, P6, fun v7 H7 hv7 P7 k7 => ?_⟩
    walk_at "v"
    refine w_b (fun _ => ?_) (fun _ => ?_)
    · walk_at "v"
      refine w_tupN ?_
      walk_at "v"
      rw [show ((v4 : Int) + (v5 : Int) + 1) = ((v4 + v5 + 1 : Nat) : Int) by omega]
      refine ⟨_, _, rfl, a, (v4 + v5 + 1), rfl, rfl, by omega, by omega, P7, fun v8 H8 hv8 P8 k8 => ?_⟩
      walk_at "v"
      refine t_new (ds := [.str (S wBOUND), .int (v8 : Int)]) (.cons (.str _) (.cons (.int _) .nil)) (fun p9 H9 hp9 s9 t9 => ?_)
      exact ⟨_, .bnd v8, trivial, t9, P8.same s9, (k7.tr k8).then s9, rfl⟩
    · exact ⟨_, .var w1 (.nm w0), ⟨n1, .inl n0, by show 1 ≤ 100; omega⟩, t6.tm (Kb.pot_tm P6 k7), P7, k7, rfl⟩
  rintro σ G ⟨v, l, lok, tv, PG, kG, rfl⟩
  have dWG := DLkb dW6 P6 kG hpa
  have tG := t56.tm (Kb.pot_tm P6 kG)
  have k0G := k06.tr kG
  have kdg : GK (.nm w0) := ⟨.inl n0, by show 1 ≤ 100; omega⟩
  walk_at "v"
  refine ev_lst (ds := gd [.app, .tip (.cst w2 (.to (.nm w0) (.nm w0)))]) (by walk_at "d") (fun l7 H7 h7 s7 d7 => ?_)
  walk_at "v"
  refine l_rep d7 (fun l8 H8 h8 s8 d8 => ?_) (by rw [gd_len]; show 2 * N ≤ 100000; omega)
  rw [gd_rep] at d8
  walk_at "v"
  have s78 := s7.tr s8
  have tv8 := tv.tm (Tm.same s78)
  refine ev_lst (ds := gd [.tip l]) (eva_cons (ev_var rfl tv8) eva_nil) (fun l9 H9 h9 s9 d9 => ?_)
  walk_at "v"
  refine l_cat (d8.same s9) d9 (fun l10 H10 h10 s10 d10 => ?_) (by rw [gd_len, gd_len, flat_len]; show N * 2 + 1 ≤ 100000; omega)
  rw [← gd_app] at d10
  walk_at "v"
  have sG10 := (s78.tr s9).tr s10
  have tG10 := tG.tm (Tm.same sG10)
  refine ev_lst (ds := gd [.app, .lam (.nm w0)]) (by walk_at "d") (fun l11 H11 h11 s11 d11 => ?_)
  walk_at "v"
  refine l_rep d11 (fun l12 H12 h12 s12 d12 => ?_) (by rw [gd_len]; show 2 * v5 ≤ 100000; omega)
  rw [gd_rep] at d12
  walk_at "v"
  have e1 : ∀ l' : Lf, ((List.replicate N [Rw.app, .tip l']).flatten ++ [Rw.tip l] : List G2).length = 2 * N + 1 := fun l' => by rw [List.length_append, flat_len]; show N * 2 + 1 = _; omega
  have e2 : (List.replicate v5 [Rw.app, .lam (Kd.nm w0)] : List (List G2)).flatten.length = 2 * v5 := by rw [flat_len]; show v5 * 2 = _; omega
  refine l_cat d12 ((d10.same s11).same s12) (fun l13 H13 h13 s13 d13 => ?_) (by rw [gd_len, gd_len, e2, e1]; omega)
  rw [← gd_app] at d13
  walk_at "v"
  have sG13 := ((sG10.tr s11).tr s12).tr s13
  have tG13 := tG.tm (Tm.same sG13)
  have dW13 := dWG.same sG13
  refine ev_lst (ds := gd [.tip (.cst w3 (.nm w0))]) (by walk_at "d") (fun l14 H14 h14 s14 d14 => ?_)
  walk_at "v"
  refine l_rep d14 (fun l15 H15 h15 s15 d15 => ?_) (by rw [gd_len]; show 1 * v5 ≤ 100000; omega)
  rw [gd_rep] at d15
  walk_at "v"
  have e3 : (List.replicate v5 [Rw.tip (Lf.cst w3 (.nm w0))] : List (List G2)).flatten.length = v5 := by rw [flat_len]; show v5 * 1 = _; omega
  refine l_cat ((d13.same s14).same s15) d15 (fun l16 H16 h16 s16 d16 => ?_) (by rw [gd_len, gd_len, List.length_append, e2, e1, e3]; omega)
  rw [← gd_app] at d16
  walk_at "v"
  have sG16 := ((sG13.tr s14).tr s15).tr s16
  have tG16 := tG.tm (Tm.same sG16)
  refine ev_lst (ds := gd [.lam (.nm w0)]) (by walk_at "d") (fun l17 H17 h17 s17 d17 => ?_)
  walk_at "v"
  refine l_rep d17 (fun l18 H18 h18 s18 d18 => ?_) (by rw [gd_len]; show 1 * v4 ≤ 100000; omega)
  rw [gd_rep] at d18
  walk_at "v"
  have e4 : (List.replicate v4 [Rw.lam (Kd.nm w0)] : List (List G2)).flatten = List.replicate v4 (.lam (.nm w0)) := List.flatten_replicate_singleton
  rw [e4] at d18
  refine l_cat d18 ((d16.same s17).same s18) (fun l19 H19 h19 s19 d19 => ?_) (by rw [gd_len, gd_len, List.length_append, List.length_append, e2, e1, e3, List.length_replicate]; omega)
  rw [← gd_app] at d19
  have sG := ((sG16.tr s17).tr s18).tr s19
  refine hQ _ _ _ (Kb.none k0G PG (((sG16.tr s17).tr s18).fresh h19)) d19 (Vc.lams ?_ _ _) (fun x hx => ?_) (by rw [List.length_append, List.length_append, List.length_append, e2, e1, e3, List.length_replicate]; omega) (PG.same sG) (k0G.then sG)
  · have vt : Vc ((List.replicate v5 [Rw.tip (Lf.cst w3 (.nm w0))] : List (List G2)).flatten) v5 := by rw [List.flatten_replicate_singleton]; exact Vc.tips _ _
    rw [List.append_assoc]
    exact Vc.reds _ v5 (m := 0) (((Vc.tip (n := 0) Vc.nil).hops _ _).append vt)
  · have q1 : ∀ {l : Lf}, l.ok → ∀ r ∈ [Rw.tip l], Rw.gok r := fun h r hr => by rw [List.mem_singleton.mp hr]; exact h
    have q2 : ∀ {r0 r1 : G2}, r0.gok → r1.gok → ∀ r ∈ [r0, r1], Rw.gok r := fun h h' r hr => by
      rcases List.mem_cons.mp hr with rfl | hr
      · exact h
      · rw [List.mem_singleton.mp hr]; exact h'
    have c2 : Lf.ok (.cst w2 (.to (.nm w0) (.nm w0))) := ⟨.inl n2, ⟨.inl n0, .inl n0⟩, by show 1 + 1 + 1 ≤ 100; omega⟩
    have c3 : Lf.ok (.cst w3 (.nm w0)) := ⟨.inl n3, kdg⟩
    rcases List.mem_append.mp hx with hx | hx
    · rw [List.eq_of_mem_replicate hx]; exact kdg
    rcases List.mem_append.mp hx with hx | hx
    · rcases List.mem_append.mp hx with hx | hx
      · exact q2 (r0 := .app) (r1 := .lam (.nm w0)) trivial kdg x (flat_rep _ _ x hx)
      · rcases List.mem_append.mp hx with hx | hx
        · exact q2 (r0 := .app) (r1 := .tip (.cst w2 (.to (.nm w0) (.nm w0)))) trivial c2 x (flat_rep _ _ x hx)
        · exact q1 lok x hx
    · exact q1 c3 x (flat_rep _ _ x hx)
end
end K02

namespace K02
open PySem PySem.Spec PyProof.Rows L2 SX
local macro_rules | `(tactic| walk_at "w1") => `(tactic| (first
  | with_reducible refine w_seq ?_ | with_reducible refine w_asgN ?_ | with_reducible refine w_c ?_
  | ((with_reducible refine' w_var ?wv ?_); (case wv => exact rfl))
  | with_reducible refine w_op ?_ | with_reducible refine w_un ?_ | with_reducible refine w_next ?_ | with_reducible refine w_brk ?_ | with_reducible refine w_cnt ?_
  | with_reducible refine w_ifS ?_ | with_reducible refine w_if ?_ | with_reducible refine w_test ?_ | with_reducible refine w_tB ?_ | with_reducible refine w_bl ?_ | with_reducible refine w_blI ?_
  | with_reducible refine w_and ?_ | with_reducible refine w_or ?_ | with_reducible refine w_not ?_ | with_reducible refine w_andV ?_ | with_reducible refine w_orV ?_ | with_reducible refine w_notV ?_
  | with_reducible refine w_nil ?_ | with_reducible refine w_cons ?_ | with_reducible refine w_cb ?_ | with_reducible refine w_call ?_ | with_reducible refine w_callS ?_ | with_reducible refine w_chain ?_
  | with_reducible refine w_tupN ?_ | with_reducible refine w_lstN ?_ | with_reducible refine w_sl ?_ | with_reducible refine w_noPart ?_ | with_reducible refine w_part ?_ | with_reducible refine w_partI ?_
  | with_reducible refine w_ret ?_ | with_reducible refine w_retN ?_ | with_reducible refine w_drop ?_ | with_reducible refine w_asg ?_ | with_reducible refine w_gSub ?_
  | ((with_reducible refine' w_aug ?wv ?_); (case wv => exact rfl)) | with_reducible refine w_ipI ?_
  | with_reducible refine w_addI ?_ | with_reducible refine w_subI ?_ | with_reducible refine w_ltI ?_ | with_reducible refine w_leI ?_ | with_reducible refine w_gtI ?_ | with_reducible refine w_geI ?_
  | with_reducible refine w_eqI ?_ | with_reducible refine w_neI ?_ | with_reducible refine w_eqT ?_ | with_reducible refine w_neT ?_ | with_reducible refine w_inS ?_ | with_reducible refine w_ninS ?_
  | with_reducible refine w_absI ?_ | with_reducible refine w_intI ?_ | with_reducible refine w_maxI ?_ | with_reducible refine w_minI ?_
  | with_reducible refine w_for ?_ | with_reducible refine w_iR1 ?_ | with_reducible refine w_iR2 ?_ | with_reducible refine w_iStr ?_ | with_reducible refine w_strI ?_ | with_reducible refine w_iList ?_ | with_reducible refine w_iTup ?_
  | with_reducible refine w_bm ?_ | with_reducible refine w_bm0 ?_ | with_reducible refine w_t ?_ | with_reducible refine w_f ?_ | with_reducible refine w_nt ?_ | with_reducible refine w_nx ?_ | with_reducible refine w_rt ?_ | with_reducible refine w_bk ?_ | with_reducible refine w_ct ?_ | with_reducible refine w_nf ?_ | with_reducible refine w_lc ?_ | with_reducible refine w_yes ?_ | with_reducible refine w_neg ?_ | with_reducible refine w_intB ?_ | with_reducible refine w_fld ?_ | with_reducible refine w_setf ?_ | with_reducible refine w_faug ?_ | with_reducible refine w_meth ?_ | with_reducible refine w_bmS ?_ | with_reducible refine w_start ?_ | with_reducible refine w_revL ?_ | with_reducible refine w_iR3 ?_))
local macro_rules | `(tactic| walk_at "w") => `(tactic| (repeat (first | walk_at "w1" | dsimp (config := { proj := false }) only [List.set_cons_zero, List.set_cons_succ])))
section
variable {w : World} {K : PySem.W.Frag} {mg : Str → Option Value} {base : Heap}
local macro_rules | `(tactic| walk_at "v1") => `(tactic| (first
  | with_reducible refine w_seq ?_ | with_reducible refine w_asgN ?_ | with_reducible refine w_c ?_
  | ((with_reducible refine' w_var ?wv ?_); (case wv => exact rfl))
  | with_reducible refine w_op ?_ | with_reducible refine w_un ?_ | with_reducible refine w_next ?_ | with_reducible refine w_brk ?_ | with_reducible refine w_cnt ?_
  | with_reducible refine w_ifS ?_ | with_reducible refine w_if ?_ | with_reducible refine w_test ?_ | with_reducible refine w_tB ?_ | with_reducible refine w_bl ?_ | with_reducible refine w_blI ?_
  | with_reducible refine w_and ?_ | with_reducible refine w_or ?_ | with_reducible refine w_not ?_ | with_reducible refine w_andV ?_ | with_reducible refine w_orV ?_ | with_reducible refine w_notV ?_
  | with_reducible refine w_nil ?_ | with_reducible refine w_cons ?_ | with_reducible refine w_cb ?_ | with_reducible refine w_call ?_ | with_reducible refine w_callS ?_ | with_reducible refine w_chain ?_
  | with_reducible refine w_sl ?_ | with_reducible refine w_noPart ?_ | with_reducible refine w_part ?_ | with_reducible refine w_partI ?_
  | with_reducible refine w_ret ?_ | with_reducible refine w_retN ?_ | with_reducible refine w_drop ?_ | with_reducible refine w_asg ?_ | with_reducible refine w_gSub ?_
  | ((with_reducible refine' w_aug ?wv ?_); (case wv => exact rfl)) | with_reducible refine w_ipI ?_
  | with_reducible refine w_addI ?_ | with_reducible refine w_subI ?_ | with_reducible refine w_ltI ?_ | with_reducible refine w_leI ?_ | with_reducible refine w_gtI ?_ | with_reducible refine w_geI ?_
  | with_reducible refine w_eqI ?_ | with_reducible refine w_neI ?_ | with_reducible refine w_eqT ?_ | with_reducible refine w_neT ?_ | with_reducible refine w_inS ?_ | with_reducible refine w_ninS ?_
  | with_reducible refine w_absI ?_ | with_reducible refine w_intI ?_ | with_reducible refine w_maxI ?_ | with_reducible refine w_minI ?_
  | with_reducible refine w_for ?_ | with_reducible refine w_iR1 ?_ | with_reducible refine w_iR2 ?_ | with_reducible refine w_iStr ?_ | with_reducible refine w_strI ?_ | with_reducible refine w_iList ?_ | with_reducible refine w_iTup ?_
  | with_reducible refine w_bm ?_ | with_reducible refine w_bm0 ?_ | with_reducible refine w_t ?_ | with_reducible refine w_f ?_ | with_reducible refine w_nt ?_ | with_reducible refine w_nx ?_ | with_reducible refine w_rt ?_ | with_reducible refine w_bk ?_ | with_reducible refine w_ct ?_ | with_reducible refine w_nf ?_ | with_reducible refine w_lc ?_ | with_reducible refine w_yes ?_ | with_reducible refine w_neg ?_ | with_reducible refine w_intB ?_ | with_reducible refine w_fld ?_ | with_reducible refine w_setf ?_ | with_reducible refine w_faug ?_ | with_reducible refine w_meth ?_ | with_reducible refine w_bmS ?_ | with_reducible refine w_start ?_ | with_reducible refine w_revL ?_ | with_reducible refine w_iR3 ?_))
local macro_rules | `(tactic| walk_at "v") => `(tactic| (repeat (first | walk_at "v1" | dsimp (config := { proj := false }) only [List.set_cons_zero, List.set_cons_succ])))
local macro_rules | `(tactic| walk_at "d") => `(tactic| (repeat (first | exact eva_nil | refine eva_cons ?_ ?_ | exact ev_str | exact ev_int | exact ev_neg | refine ev_tup ?_ | (refine ev_var rfl ?_; assumption))))


/-- the logical constants and their kinds at an instance -/
def KN (k : Kd) : List (List Nat × Kd) :=
  [([116,114,117,101], .nm wBOOL), ([102,97,108,115,101], .nm wBOOL), ([126], .to (.nm wBOOL) (.nm wBOOL)), ([38], .to (.nm wBOOL) (.to (.nm wBOOL) (.nm wBOOL))), ([124], .to (.nm wBOOL) (.to (.nm wBOOL) (.nm wBOOL))), ([61,62], .to (.nm wBOOL) (.to (.nm wBOOL) (.nm wBOOL)))] ++
  [([61], .to k (.to k (.nm wBOOL))), ([97,108,108], .to (.to k (.nm wBOOL)) (.nm wBOOL))] ++ [([115,111,109,101], .to (.to k (.nm wBOOL)) (.nm wBOOL))]
def knD (e : List Nat × Kd) : PyData := .tuple [.str (S e.1), e.2.d]
theorem KN_ok {k : Kd} (h : k.ok) (hs : k.sz ≤ 5) : ∀ e ∈ KN k, e.1 ∈ LOGIC ∧ e.2.ok ∧ e.2.sz ≤ 13 := by
  have b : (Kd.nm wBOOL).ok := .inr rfl
  have b1 : (Kd.nm wBOOL).sz = 1 := rfl
  intro e he
  simp only [KN, List.cons_append, List.nil_append, List.mem_cons, List.not_mem_nil, or_false] at he
  rcases he with rfl | rfl | rfl | rfl | rfl | rfl | rfl | rfl | rfl
  · exact ⟨by show [116,114,117,101] ∈ LOGIC; decide, b, by show 1 ≤ 13; omega⟩
  · exact ⟨by show [102,97,108,115,101] ∈ LOGIC; decide, b, by show 1 ≤ 13; omega⟩
  · exact ⟨by show [126] ∈ LOGIC; decide, ⟨b, b⟩, by show 1 + 1 + 1 ≤ 13; omega⟩
  · exact ⟨by show [38] ∈ LOGIC; decide, ⟨b, b, b⟩, by show 1 + (1 + 1 + 1) + 1 ≤ 13; omega⟩
  · exact ⟨by show [124] ∈ LOGIC; decide, ⟨b, b, b⟩, by show 1 + (1 + 1 + 1) + 1 ≤ 13; omega⟩
  · exact ⟨by show [61,62] ∈ LOGIC; decide, ⟨b, b, b⟩, by show 1 + (1 + 1 + 1) + 1 ≤ 13; omega⟩
  · exact ⟨by show [61] ∈ LOGIC; decide, ⟨h, h, b⟩, by show k.sz + (k.sz + 1 + 1) + 1 ≤ 13; omega⟩
  · exact ⟨by show [97,108,108] ∈ LOGIC; decide, ⟨⟨h, b⟩, b⟩, by show k.sz + 1 + 1 + 1 + 1 ≤ 13; omega⟩
  · exact ⟨by show [115,111,109,101] ∈ LOGIC; decide, ⟨⟨h, b⟩, b⟩, by show k.sz + 1 + 1 + 1 + 1 ≤ 13; omega⟩
def sp_law_ask_logical : Sp := sp3 fun x y z H Q _ => ∃ (a p q : Addr), x = .ref a ∧ y = .ref p ∧ z = .ref q ∧ Bn a p q H H ∧ ∀ H', Pot a H' → Kb a H H' → Q (.bl true) H'
theorem ok_law_ask_logical (T : Txt w K mg) {fd : FuncData} (F : Fn_law_ask_logical K fd) (hm : mg "_law_ask_logical" = some (.ref (He.ga K "_law_ask_logical"))) (c_law_take : CalX P w K mg base CX0 1 "_law_take" sp_law_take)(c_law_grown : CalX P w K mg base CX0 3 "_law_grown" sp_law_grown)(c_law_ask : CalG P w K mg base CX0 55 "_law_ask" sp_law_ask) : CalG P w K mg base CX0 56 "_law_ask_logical" sp_law_ask_logical := by
  refine calg0 (k := 55) F hm sc_law_ask_logical (b_law_ask_logical F) (fun _ _ _ _ h => sp3_len h) (fun cdv A outer s H vs Q E hr h => ?_)
  obtain ⟨x0, x1, x2, rfl, h⟩ := h
  refine ⟨_, (pss_cons (ps_set (i := 3) sc_law_ask_logical.nd rfl (Or.inl rfl) (pe_ix ix_list (pv 2) (pe_cx c_law_take hr.toRoom (by decide) rfl pass0 (pa_cons (pv 0) (pa_cons pe_int pa_nil))) (fun _ _ => rfl)))
    (pss_cons (ps_set (i := 4) sc_law_ask_logical.nd rfl (Or.inl rfl) (pe_tup (pa_cons pe_str (pa_cons pe_str pa_nil))))
    (pss_cons (ps_set (i := 5) sc_law_ask_logical.nd rfl (Or.inl rfl) (pe_tup (pa_cons pe_str (pa_cons (pv 4) (pa_cons (pv 4) pa_nil)))))
    (pss_cons (ps_set (i := 6) sc_law_ask_logical.nd rfl (Or.inl rfl) (pe_tup (pa_cons pe_str (pa_cons (pv 4) (pa_cons (pv 5) pa_nil)))))
    (pss_cons (ps_set (i := 7) sc_law_ask_logical.nd rfl (Or.inl rfl) (pe_lst (pa_cons (pe_tup (pa_cons pe_str (pa_cons (pv 4) pa_nil))) (pa_cons (pe_tup (pa_cons pe_str (pa_cons (pv 4) pa_nil))) (pa_cons (pe_tup (pa_cons pe_str (pa_cons (pv 5) pa_nil))) (pa_cons (pe_tup (pa_cons pe_str (pa_cons (pv 6) pa_nil))) (pa_cons (pe_tup (pa_cons pe_str (pa_cons (pv 6) pa_nil))) (pa_cons (pe_tup (pa_cons pe_str (pa_cons (pv 6) pa_nil))) pa_nil))))))))
    (pss_cons (ps_set (i := 7) sc_law_ask_logical.nd rfl (Or.inl rfl) (pe_op op_cat (pv 7) (pe_lst (pa_cons (pe_tup (pa_cons pe_str (pa_cons (pe_tup (pa_cons pe_str (pa_cons (pv 3) (pa_cons (pe_tup (pa_cons pe_str (pa_cons (pv 3) (pa_cons (pv 4) pa_nil)))) pa_nil)))) pa_nil))) (pa_cons (pe_tup (pa_cons pe_str (pa_cons (pe_tup (pa_cons pe_str (pa_cons (pe_tup (pa_cons pe_str (pa_cons (pv 3) (pa_cons (pv 4) pa_nil)))) (pa_cons (pv 4) pa_nil)))) pa_nil))) pa_nil)))))
    (pss_cons (ps_set (i := 7) sc_law_ask_logical.nd rfl (Or.inl rfl) (pe_op op_cat (pv 7) (pe_lst (pa_cons (pe_tup (pa_cons pe_str (pa_cons (pe_tup (pa_cons pe_str (pa_cons (pe_tup (pa_cons pe_str (pa_cons (pv 3) (pa_cons (pv 4) pa_nil)))) (pa_cons (pv 4) pa_nil)))) pa_nil))) pa_nil))))
    (pss_cons (ps_asg (pe_ix ix_list (pv 7) (pe_cx c_law_take hr.toRoom (by decide) rfl pass0 (pa_cons (pv 0) (pa_cons pe_int pa_nil))) (fun _ _ => rfl)) (pg_tup (by rfl) (pgs_cons (pg_name (i := 8) sc_law_ask_logical.nd rfl (Or.inl rfl)) (pgs_cons (pg_name (i := 3) sc_law_ask_logical.nd rfl (Or.inl rfl)) pgs_nil))))
    (pss_cons (ps_set (i := 9) sc_law_ask_logical.nd rfl (Or.inl rfl) (pe_lst (pa_cons (pe_tup (pa_cons pe_str (pa_cons (pv 8) (pa_cons (pv 3) pa_nil)))) pa_nil)))
    (pss_cons (ps_for PassesOwn.never rfl (pi_range1 (by rfl) T.f_range (pa_cons (pe_cx c_law_take hr.toRoom (by decide) rfl pass0 (pa_cons (pv 0) (pa_cons pe_int pa_nil))) pa_nil)) (pg_name (i := 10) sc_law_ask_logical.nd rfl (Or.inl rfl))
    (pss_one (ps_if (pt_cmpR op_eq (pe_ix ix_tup (pv 3) pe_int (fun _ _ => rfl)) pe_str (nomark _))
    (pss_cons (ps_set (i := 11) sc_law_ask_logical.nd rfl (Or.inl rfl) (pe_ix ix_tup (pv 3) pe_int (fun _ _ => rfl)))
    (Evl.pss_cut (ps_if (pt_cmpR op_eq (pe_cx c_law_take hr.toRoom (by decide) rfl pass0 (pa_cons (pv 0) (pa_cons pe_int pa_nil))) pe_int (nomark _))
    (pss_one (ps_set (i := 11) sc_law_ask_logical.nd rfl (Or.inl rfl) (pe_ix ix_list (pv 2) (pe_cx c_law_take hr.toRoom (by decide) rfl pass0 (pa_cons (pv 0) (pa_cons pe_int pa_nil))) (fun _ _ => rfl))))
    pss_nil)
    (pss_cons (ps_set (i := 9) sc_law_ask_logical.nd rfl (Or.inl rfl) (pe_op op_cat (pe_op op_cat (pe_lst (pa_cons (pe_tup (pa_cons pe_str pa_nil)) pa_nil)) (pv 9)) (pe_cx c_law_grown hr.toRoom (by decide) rfl pass0 (pa_cons (pv 0) (pa_cons (pv 11) (pa_cons (pv 1) (pa_cons (pv 2) (pa_cons (pe_cx c_law_take hr.toRoom (by decide) rfl pass0 (pa_cons (pv 0) (pa_cons pe_int pa_nil))) pa_nil))))))))
    (pss_one (ps_set (i := 3) sc_law_ask_logical.nd rfl (Or.inl rfl) (pe_ix ix_tup (pv 3) pe_int (fun _ _ => rfl)))))))
    pss_nil)))
    (pss_one (ps_ret (pe_cg c_law_ask hr (by decide) rfl pass0 (pa_cons (pv 9) (pa_cons pe_bl pa_nil))))))))))))))), ?_⟩
  rw [show start ["pot", "words", "pool", "kind", "truth", "one", "two", "known", "word", "code", "turn", "other"] [x0, x1, x2] = [some x0, some x1, some x2, none, none, none, none, none, none, none, none, none] from rfl]
  have ec0 : Str.ofString "named" = S [110,97,109,101,100] := S_ofs (by decide +kernel)
  have ec1 : Str.ofString "bool" = S [98,111,111,108] := S_ofs (by decide +kernel)
  have ec2 : Str.ofString "to" = S [116,111] := S_ofs (by decide +kernel)
  have ec3 : Str.ofString "true" = S [116,114,117,101] := S_ofs (by decide +kernel)
  have ec4 : Str.ofString "false" = S [102,97,108,115,101] := S_ofs (by decide +kernel)
  have ec5 : Str.ofString "~" = S [126] := S_ofs (by decide +kernel)
  have ec6 : Str.ofString "&" = S [38] := S_ofs (by decide +kernel)
  have ec7 : Str.ofString "|" = S [124] := S_ofs (by decide +kernel)
  have ec8 : Str.ofString "=>" = S [61,62] := S_ofs (by decide +kernel)
  have ec9 : Str.ofString "const" = S [99,111,110,115,116] := S_ofs (by decide +kernel)
  have ec10 : Str.ofString "=" = S [61] := S_ofs (by decide +kernel)
  have ec11 : Str.ofString "all" = S [97,108,108] := S_ofs (by decide +kernel)
  have ec12 : Str.ofString "some" = S [115,111,109,101] := S_ofs (by decide +kernel)
  have ec13 : Str.ofString "app" = S [97,112,112] := S_ofs (by decide +kernel)
  rw [ec0, ec1, ec2, ec3, ec4, ec5, ec6, ec7, ec8, ec9, ec10, ec11, ec12, ec13]
  obtain ⟨a, p, q, rfl, rfl, rfl, B, hQ⟩ := h
  try dsimp only [cxOf]
  walk_at "v"
  refine ⟨_, _, rfl, a, 4, rfl, rfl, by omega, by omega, B.pot, fun v1 H1 hv1 P1 k1 => ?_⟩
  walk_at "v"
  have B1 := B.kb P1 k1
  refine B1.2.1.ix hv1 (fun x3 kd okd szd t3 => ?_)
  walk_at "v"
  refine ev_go (d := Kd.d (.nm wBOOL)) (by walk_at "d") (fun x4 H4 s4 t4 => ?_)
  have t3_4 := t3.tm (Tm.same s4)
  walk_at "v"
  refine ev_go (d := Kd.d (.to (.nm wBOOL) (.nm wBOOL))) (by walk_at "d") (fun x5 H5 s5 t5 => ?_)
  have t3_5 := t3_4.tm (Tm.same s5)
  have t4_5 := t4.tm (Tm.same s5)
  walk_at "v"
  refine ev_go (d := Kd.d (.to (.nm wBOOL) (.to (.nm wBOOL) (.nm wBOOL)))) (by walk_at "d") (fun x6 H6 s6 t6_6 => ?_)
  have t3_6 := t3_5.tm (Tm.same s6)
  have t4_6 := t4_5.tm (Tm.same s6)
  have t5_6 := t5.tm (Tm.same s6)
  walk_at "v"
  refine ev_lst (ds := [(([116,114,117,101] : List Nat), Kd.nm wBOOL), ([102,97,108,115,101], .nm wBOOL), ([126], .to (.nm wBOOL) (.nm wBOOL)), ([38], .to (.nm wBOOL) (.to (.nm wBOOL) (.nm wBOOL))), ([124], .to (.nm wBOOL) (.to (.nm wBOOL) (.nm wBOOL))), ([61,62], .to (.nm wBOOL) (.to (.nm wBOOL) (.nm wBOOL)))].map knD) (by walk_at "d") (fun l7 H7 hl7 s7 d7 => ?_)
  have t3_7 := t3_6.tm (Tm.same s7)
  have t4_7 := t4_6.tm (Tm.same s7)
  walk_at "v"
  refine ev_lst (ds := [(([61] : List Nat), Kd.to kd (.to kd (.nm wBOOL))), ([97,108,108], .to (.to kd (.nm wBOOL)) (.nm wBOOL))].map knD) (by walk_at "d") (fun l8a H8a hl8a s8a d8a => ?_)
  walk_at "v"
  refine l_cat (d7.same s8a) d8a (fun l8 H8 hl8 s8b d8 => ?_) (Nat.le_of_ble_eq_true rfl)
  walk_at "v"
  have s8 := s8a.tr s8b
  have t3_8 := t3_7.tm (Tm.same s8)
  have t4_8 := t4_7.tm (Tm.same s8)
  refine ev_lst (ds := [(([115,111,109,101] : List Nat), Kd.to (.to kd (.nm wBOOL)) (.nm wBOOL))].map knD) (by walk_at "d") (fun l9a H9a hl9a s9a d9a => ?_)
  walk_at "v"
  refine l_cat (d8.same s9a) d9a (fun l9 H9 hl9 s9b d9 => ?_) (Nat.le_of_ble_eq_true rfl)
  walk_at "v"
  have s9 := s9a.tr s9b
  have d9 : DL H9 l9 ((KN kd).map knD) := d9
  have B9 := (((((B1.same s4).same s5).same s6).same s7).same s8).same s9
  have hl9a : l9 ≠ a := Pot.ne ((((((B1.same s4).same s5).same s6).same s7).same s8).same s9a).pot hl9
  refine ⟨_, _, rfl, a, 9, rfl, rfl, by omega, by omega, B9.pot, fun v10 H10 hv10 P10 k10 => ?_⟩
  walk_at "v"
  have B10 := B9.kb P10 k10
  have hv10' : v10 < (KN kd).length := hv10
  refine l_ix (DLkb d9 B9.pot k10 hl9a) (d := knD (KN kd)[v10]) (by rw [List.getElem?_map, List.getElem?_eq_getElem hv10']; rfl) (fun x11 tx11 => ?_)
  obtain ⟨lg, ok0, sz0⟩ := KN_ok okd szd _ (List.getElem_mem hv10')
  generalize (KN kd)[v10] = e at tx11 lg ok0 sz0
  obtain ⟨w, kw0⟩ := e
  have lg : w ∈ LOGIC := lg
  have ok0 : kw0.ok := ok0
  have sz0 : kw0.sz ≤ 13 := sz0
  walk_at "v"
  obtain ⟨xa, xs, rfl, hxa, txs⟩ := tx11.tuple
  obtain ⟨y1, y2, rfl, ty1, ty2⟩ := txs.two
  rw [ty1.txt] at hxa
  refine w_un2 rfl hxa ?_
  walk_at "v"
  have ty2 : TD H10 y2 kw0.d := ty2
  refine ev_lst (ds := gd [.tip (.cst w kw0)]) (eva_cons (ev_tup (eva_cons ev_str (eva_cons (ev_var rfl (.str _)) (eva_cons (ev_var rfl ty2) eva_nil)))) eva_nil) (fun r11 H11 h11 s11 d11 => ?_)
  have B11 := B10.same s11
  have ty2 := ty2.tm (Tm.same s11)
  have hra : r11 ≠ a := Pot.ne B10.pot h11
  walk_at "v"
  refine ⟨_, _, rfl, a, 3, rfl, rfl, by omega, by omega, B11.pot, fun v12 H12 hv12 P12 k12 => ?_⟩
  walk_at "v"
  have B12 := B11.kb P12 k12
  refine w_rg1 (by omega) (by omega) ?_
  rw [show ((v12 : Int)).toNat = v12 from Int.toNat_natCast _]
  refine for_range (fun i σ H' => ∃ (r : Addr) (c : List G2) (k : Kd) (vk : V) (u4 u5 u6 u7 u8 u10 u11 : Option V), σ = [some (.ref a), some (.ref p), some (.ref q), some vk, u4, u5, u6, u7, u8, some (.ref r), u10, u11] ∧ Bn a p q H H' ∧ DL H' r (gd c) ∧ r ≠ a ∧ Vc c 1 ∧ (∀ r ∈ c, r.gok) ∧ c.length ≤ 1 + 102 * i ∧ TD H' vk k.d ∧ k.ok ∧ k.sz ≤ 13)
    ⟨_, _, kw0, _, _, _, _, _, _, _, _, rfl, B12, DLkb d11 B11.pot k12 hra, hra, Vc.tip Vc.nil, (fun x hx => by rw [List.mem_singleton.mp hx]; exact ⟨.inr lg, ok0, by omega⟩), Nat.le_refl _, ty2.tm (Kb.pot_tm B11.pot k12), ok0, sz0⟩ ?_ ?_
  · rintro i σ G hi ⟨r, c, k, vk, u4, u5, u6, u7, u8, u10, u11, rfl, BG, dG, hra, vc, gk, hl, tk, ok, sz⟩
    have hi : i < v12 := hi
    dsimp only [gName]
    walk_at "v"
    obtain ⟨krest, ekd⟩ := kw_d k
    have tkw : TD G vk (.tuple (.str (S (kw k)) :: krest)) := by rw [← ekd]; exact tk
    refine t_ixS (n := 0) tkw rfl ?_
    walk_at "v"
    refine w_b (fun z => ?_) (fun _ => ⟨r, c, k, vk, _, _, _, _, _, _, _, rfl, BG, dG, hra, vc, gk, by omega, tk, ok, sz⟩)
    obtain ⟨ka, kb, rfl⟩ := kw_to (of_decide_eq_true z)
    have tk : TD G vk (.tuple [.str (S wTO), ka.d, kb.d]) := tk
    have szab : ka.sz + kb.sz + 1 ≤ 13 := sz
    walk_at "v"
    refine t_ix (n := 1) tk rfl (fun xo txo => ?_)
    walk_at "v"
    refine w_mid (fun σ H' => Bn a p q H H' ∧ DL H' r (gd c) ∧ TD H' vk (.tuple [.str (S wTO), ka.d, kb.d]) ∧ ∃ (v : V) (ko : Kd), ko.ok ∧ ko.sz ≤ 13 ∧ TD H' v ko.d ∧ σ = [some (.ref a), some (.ref p), some (.ref q), some vk, u4, u5, u6, u7, u8, some (.ref r), some (.int (0 + (i : Int))), some v]) ?_ ?_
    · walk_at "v"
      refine ⟨_, _, rfl, a, 4, rfl, rfl, by omega, by omega, BG.pot, fun v1 H1 hv1 P1 k1 => ?_⟩
      walk_at "v"
      have B1 := BG.kb P1 k1
      have d1 := DLkb dG BG.pot k1 hra
      have m1 := Kb.pot_tm BG.pot k1
      refine w_b (fun _ => ?_) (fun _ => ?_)
      · walk_at "v"
        refine ⟨_, _, rfl, a, 4, rfl, rfl, by omega, by omega, B1.pot, fun v2 H2 hv2 P2 k2 => ?_⟩
        walk_at "v"
        have B2 := B1.kb P2 k2
        refine B2.2.1.ix hv2 (fun x3 k3 ok3 sz3 t3 => ?_)
        exact ⟨B2, DLkb d1 B1.pot k2 hra, (tk.tm m1).tm (Kb.pot_tm B1.pot k2), _, k3, ok3, by omega, t3, rfl⟩
      · exact ⟨B1, d1, tk.tm m1, _, ka, ok.1, by omega, txo.tm m1, rfl⟩
    rintro σ G1 ⟨B1, d1, tk1, vo, ko, oko, szo, to, rfl⟩
    walk_at "v"
    refine ev_lst (ds := gd [.app]) (by walk_at "d") (fun l2 H2 h2 s2 d2 => ?_)
    walk_at "v"
    refine l_cat d2 (d1.same s2) (fun l3 H3 h3 s3 d3 => ?_) (by rw [gd_len, gd_len]; show 1 + c.length ≤ 100000; omega)
    rw [← gd_app] at d3
    have B3 := (B1.same s2).same s3
    have hl3a : l3 ≠ a := Pot.ne (B1.same s2).pot h3
    have m13 := Tm.same (s2.tr s3)
    walk_at "v"
    refine ⟨_, _, rfl, a, 9, rfl, rfl, by omega, by omega, B3.pot, fun v4 H4 hv4 P4 k4 => ?_⟩
    walk_at "v"
    have B4 := B3.kb P4 k4
    have m4 := Kb.pot_tm B3.pot k4
    refine ⟨_, _, _, _, _, rfl, a, p, q, ko, v4, rfl, (to.tm m13).tm m4, rfl, rfl, rfl, B4.pot, B4.1, B4.2.1, oko, szo, by omega, fun r5 H5 c5 h5 d5 vc5 gk5 _ hl5 P5 k5 => ?_⟩
    have B5 := B4.kb P5 k5
    have m5 := Kb.pot_tm B4.pot k5
    have d35 := DLkb (DLkb d3 B3.pot k4 hl3a) B4.pot k5 hl3a
    refine l_cat d35 d5 (fun l6 H6 h6 s6 d6 => ?_) (by rw [gd_len, gd_len, List.length_append]; show 1 + c.length + c5.length ≤ 100000; omega)
    rw [← gd_app] at d6
    walk_at "v"
    refine t_ix (n := 2) ((((tk1.tm m13).tm m4).tm m5).tm (Tm.same s6)) rfl (fun xk txk => ?_)
    walk_at "v"
    refine ⟨l6, _, kb, xk, _, _, _, _, _, _, _, rfl, B5.same s6, d6, Pot.ne B5.pot h6, Vc.app (n := 0) (vc.append vc5), (fun x hx => ?_), ?_, txk, ok.2, by omega⟩
    · rcases List.mem_append.mp hx with hx | hx
      · rcases List.mem_cons.mp hx with rfl | hx
        · trivial
        · exact gk x hx
      · exact gk5 x hx
    · rw [List.length_append, List.length_append]
      show 1 + c.length + c5.length ≤ _
      omega
  · rintro σ G ⟨r, c, k, vk, u4, u5, u6, u7, u8, u10, u11, rfl, BG, dG, hra, vc, gk, hl, tk, ok, sz⟩
    walk_at "v"
    exact askG dG vc gk (by omega) fun H' s' => hQ H' (BG.same s').pot (BG.same s').k
end
end K02

namespace K02
open PySem PySem.Spec PyProof.Rows L2 SX
local macro_rules | `(tactic| walk_at "w1") => `(tactic| (first
  | with_reducible refine w_seq ?_ | with_reducible refine w_asgN ?_ | with_reducible refine w_c ?_
  | ((with_reducible refine' w_var ?wv ?_); (case wv => exact rfl))
  | with_reducible refine w_op ?_ | with_reducible refine w_un ?_ | with_reducible refine w_next ?_ | with_reducible refine w_brk ?_ | with_reducible refine w_cnt ?_
  | with_reducible refine w_ifS ?_ | with_reducible refine w_if ?_ | with_reducible refine w_test ?_ | with_reducible refine w_tB ?_ | with_reducible refine w_bl ?_ | with_reducible refine w_blI ?_
  | with_reducible refine w_and ?_ | with_reducible refine w_or ?_ | with_reducible refine w_not ?_ | with_reducible refine w_andV ?_ | with_reducible refine w_orV ?_ | with_reducible refine w_notV ?_
  | with_reducible refine w_nil ?_ | with_reducible refine w_cons ?_ | with_reducible refine w_cb ?_ | with_reducible refine w_call ?_ | with_reducible refine w_callS ?_ | with_reducible refine w_chain ?_
  | with_reducible refine w_tupN ?_ | with_reducible refine w_lstN ?_ | with_reducible refine w_sl ?_ | with_reducible refine w_noPart ?_ | with_reducible refine w_part ?_ | with_reducible refine w_partI ?_
  | with_reducible refine w_ret ?_ | with_reducible refine w_retN ?_ | with_reducible refine w_drop ?_ | with_reducible refine w_asg ?_ | with_reducible refine w_gSub ?_
  | ((with_reducible refine' w_aug ?wv ?_); (case wv => exact rfl)) | with_reducible refine w_ipI ?_
  | with_reducible refine w_addI ?_ | with_reducible refine w_subI ?_ | with_reducible refine w_ltI ?_ | with_reducible refine w_leI ?_ | with_reducible refine w_gtI ?_ | with_reducible refine w_geI ?_
  | with_reducible refine w_eqI ?_ | with_reducible refine w_neI ?_ | with_reducible refine w_eqT ?_ | with_reducible refine w_neT ?_ | with_reducible refine w_inS ?_ | with_reducible refine w_ninS ?_
  | with_reducible refine w_absI ?_ | with_reducible refine w_intI ?_ | with_reducible refine w_maxI ?_ | with_reducible refine w_minI ?_
  | with_reducible refine w_for ?_ | with_reducible refine w_iR1 ?_ | with_reducible refine w_iR2 ?_ | with_reducible refine w_iStr ?_ | with_reducible refine w_strI ?_ | with_reducible refine w_iList ?_ | with_reducible refine w_iTup ?_
  | with_reducible refine w_bm ?_ | with_reducible refine w_bm0 ?_ | with_reducible refine w_t ?_ | with_reducible refine w_f ?_ | with_reducible refine w_nt ?_ | with_reducible refine w_nx ?_ | with_reducible refine w_rt ?_ | with_reducible refine w_bk ?_ | with_reducible refine w_ct ?_ | with_reducible refine w_nf ?_ | with_reducible refine w_lc ?_ | with_reducible refine w_yes ?_ | with_reducible refine w_neg ?_ | with_reducible refine w_intB ?_ | with_reducible refine w_fld ?_ | with_reducible refine w_setf ?_ | with_reducible refine w_faug ?_ | with_reducible refine w_meth ?_ | with_reducible refine w_bmS ?_ | with_reducible refine w_start ?_ | with_reducible refine w_revL ?_ | with_reducible refine w_iR3 ?_))
local macro_rules | `(tactic| walk_at "w") => `(tactic| (repeat (first | walk_at "w1" | dsimp (config := { proj := false }) only [List.set_cons_zero, List.set_cons_succ])))
section
variable {w : World} {K : PySem.W.Frag} {mg : Str → Option Value} {base : Heap}
local macro_rules | `(tactic| walk_at "v1") => `(tactic| (first
  | with_reducible refine w_seq ?_ | with_reducible refine w_asgN ?_ | with_reducible refine w_c ?_
  | ((with_reducible refine' w_var ?wv ?_); (case wv => exact rfl))
  | with_reducible refine w_op ?_ | with_reducible refine w_un ?_ | with_reducible refine w_next ?_ | with_reducible refine w_brk ?_ | with_reducible refine w_cnt ?_
  | with_reducible refine w_ifS ?_ | with_reducible refine w_if ?_ | with_reducible refine w_test ?_ | with_reducible refine w_tB ?_ | with_reducible refine w_bl ?_ | with_reducible refine w_blI ?_
  | with_reducible refine w_and ?_ | with_reducible refine w_or ?_ | with_reducible refine w_not ?_ | with_reducible refine w_andV ?_ | with_reducible refine w_orV ?_ | with_reducible refine w_notV ?_
  | with_reducible refine w_nil ?_ | with_reducible refine w_cons ?_ | with_reducible refine w_cb ?_ | with_reducible refine w_call ?_ | with_reducible refine w_callS ?_ | with_reducible refine w_chain ?_
  | with_reducible refine w_sl ?_ | with_reducible refine w_noPart ?_ | with_reducible refine w_part ?_ | with_reducible refine w_partI ?_
  | with_reducible refine w_ret ?_ | with_reducible refine w_retN ?_ | with_reducible refine w_drop ?_ | with_reducible refine w_asg ?_ | with_reducible refine w_gSub ?_
  | ((with_reducible refine' w_aug ?wv ?_); (case wv => exact rfl)) | with_reducible refine w_ipI ?_
  | with_reducible refine w_addI ?_ | with_reducible refine w_subI ?_ | with_reducible refine w_ltI ?_ | with_reducible refine w_leI ?_ | with_reducible refine w_gtI ?_ | with_reducible refine w_geI ?_
  | with_reducible refine w_eqI ?_ | with_reducible refine w_neI ?_ | with_reducible refine w_eqT ?_ | with_reducible refine w_neT ?_ | with_reducible refine w_inS ?_ | with_reducible refine w_ninS ?_
  | with_reducible refine w_absI ?_ | with_reducible refine w_intI ?_ | with_reducible refine w_maxI ?_ | with_reducible refine w_minI ?_
  | with_reducible refine w_for ?_ | with_reducible refine w_iR1 ?_ | with_reducible refine w_iR2 ?_ | with_reducible refine w_iStr ?_ | with_reducible refine w_strI ?_ | with_reducible refine w_iList ?_ | with_reducible refine w_iTup ?_
  | with_reducible refine w_bm ?_ | with_reducible refine w_bm0 ?_ | with_reducible refine w_t ?_ | with_reducible refine w_f ?_ | with_reducible refine w_nt ?_ | with_reducible refine w_nx ?_ | with_reducible refine w_rt ?_ | with_reducible refine w_bk ?_ | with_reducible refine w_ct ?_ | with_reducible refine w_nf ?_ | with_reducible refine w_lc ?_ | with_reducible refine w_yes ?_ | with_reducible refine w_neg ?_ | with_reducible refine w_intB ?_ | with_reducible refine w_fld ?_ | with_reducible refine w_setf ?_ | with_reducible refine w_faug ?_ | with_reducible refine w_meth ?_ | with_reducible refine w_bmS ?_ | with_reducible refine w_start ?_ | with_reducible refine w_revL ?_ | with_reducible refine w_iR3 ?_))
local macro_rules | `(tactic| walk_at "v") => `(tactic| (repeat (first | walk_at "v1" | dsimp (config := { proj := false }) only [List.set_cons_zero, List.set_cons_succ])))
local macro_rules | `(tactic| walk_at "d") => `(tactic| (repeat (first | exact ev_ixL (n := 0) rfl (by assumption) rfl | exact ev_ixL (n := 1) rfl (by assumption) rfl | exact ev_ixL (n := 2) rfl (by assumption) rfl | exact ev_ixL (n := 3) rfl (by assumption) rfl | exact eva_nil | refine eva_cons ?_ ?_ | exact ev_str | exact ev_int | exact ev_neg | refine ev_tup ?_ | (refine ev_var rfl ?_; assumption))))


theorem rg2 (n : Nat) (h : n ≤ 1000) : RgC 0 (n : Int) 2 ((n + 1) / 2) := by
  have e : Builtin.Range.rangeSize 0 (n : Int) 2 = (((n + 1) / 2 : Nat) : Int) := by
    unfold Builtin.Range.rangeSize
    simp only [show (2 : Int) > 0 by decide, if_true]
    split <;> omega
  refine ⟨by decide, by decide, ?_, e⟩
  have f : ∀ x : Int, 0 ≤ x → x < 10000 → Builtin.Range.rangeFitsLong x = true := fun x h1 h2 => by
    unfold Builtin.Range.rangeFitsLong
    rw [Bool.and_eq_true, decide_eq_true_eq, decide_eq_true_eq]
    omega
  unfold Builtin.Range.small
  rw [e, f 0 (by omega) (by omega), f (n : Int) (by omega) (by omega), f 2 (by omega) (by omega), f (((n + 1) / 2 : Nat) : Int) (by omega) (by omega), if_pos (show (2 : Int) > 0 by decide), f ((n : Int) + (2 - 1)) (by omega) (by omega)]
  simp
/-- a list of codes -/
def LL (H : Hp) (p : Addr) (cs : List (List G2)) : Prop := ∃ xs, H p = some (.lst xs) ∧ xs.length = cs.length ∧ ∀ (i : Nat) (c : List G2), cs[i]? = some c → ∃ r, xs[i]? = some (.ref r) ∧ DL H r (gd c) ∧ r ≠ p
section
variable {H H' : Hp} {p r : Addr} {cs : List (List G2)} {c : List G2} {Q : VK}
theorem LL.same (h : LL H p cs) (s : Same H H') : LL H' p cs := let ⟨xs, e, l, f⟩ := h; ⟨xs, s _ _ e, l, fun i c z => let ⟨r, a, b, n⟩ := f i c z; ⟨r, a, b.same s, n⟩⟩
theorem LL.len (h : LL H p cs) (k : Q (.int (cs.length : Int)) H) : rLenQ K [.ref p] H Q := by
  obtain ⟨xs, e, l, _⟩ := h
  rw [← l] at k
  exact ⟨p, xs, rfl, .inl (SqL.of e), k⟩
theorem LL.ix (h : LL H p cs) (s : Same H H') {i : Nat} (e : cs[i]? = some c) (k : ∀ r, DL H r (gd c) → Q (.ref r) H') : rIxL K (.ref p) (.int (i : Int)) H' Q := by
  obtain ⟨xs, e', l, f⟩ := h
  obtain ⟨r, a, b, _⟩ := f i c e
  exact w_ixL (SqL.of (s _ _ e')) a (k r b)
theorem LL.nil_ (e : H p = some (.lst [])) : LL H p [] := ⟨[], e, rfl, fun i c z => by cases z⟩
theorem LL.snoc {xs : List V} (h : LL H p cs) (e : H p = some (.lst xs)) (d : DL H r (gd c)) (n : r ≠ p) : LL (upd H p (.lst (xs ++ [.ref r]))) p (cs ++ [c]) := by
  obtain ⟨ys, e', l, f⟩ := h
  rw [e] at e'
  cases e'
  have ex : Ex p H (upd H p (.lst (xs ++ [.ref r]))) := fun b hb => upd_ne hb
  refine ⟨_, upd_same, by rw [List.length_append, List.length_append, l]; rfl, fun i c' z => ?_⟩
  by_cases hi : i < cs.length
  · rw [List.getElem?_append_left hi] at z
    obtain ⟨r', a, b, m⟩ := f i c' z
    exact ⟨r', by rw [List.getElem?_append_left (by omega)]; exact a, b.ex ex m e, m⟩
  · rw [List.getElem?_append_right (by omega)] at z
    have hz : i - cs.length = 0 := by
      have := (List.getElem?_eq_some_iff.mp z).1
      have : i - cs.length < 1 := this
      omega
    rw [hz] at z
    cases z
    exact ⟨r, by rw [List.getElem?_append_right (by omega), show i - xs.length = 0 by omega]; rfl, d.ex ex n e, n⟩
theorem LL.app (h : LL H p cs) (d : DL H r (gd c)) (n : r ≠ p) (hl : cs.length ≤ 1000) (k : ∀ H', LL H' p (cs ++ [c]) → Ex p H H' → Q .non H') : rAppend (.ref p) [.ref r] H Q := by
  obtain ⟨xs, e, l, f⟩ := h
  refine ⟨p, xs, _, rfl, rfl, e, szl (show xs.length + 1 ≤ 100000 by omega), k _ (LL.snoc ⟨xs, e, l, f⟩ e d n) fun b hb => upd_ne hb⟩
theorem LL.ty {F : Prop} (h : LL H p cs) (k : F) : tyV K "list" (.ref p) H ∧ F := let ⟨_, e, _⟩ := h; n_lTy e k
end
/-- two trees under the pair -/
def jn (w : List Nat) (b : Kd) (c1 c2 : List G2) : List G2 := [.app, .app, .tip (.cst w (.to b (.to b b)))] ++ c1 ++ c2
def JJ (w : List Nat) (b : Kd) : List (List G2) → List (List G2)
  | c1 :: c2 :: cs => jn w b c1 c2 :: JJ w b cs
  | cs => cs
def wt (cs : List (List G2)) : Nat := (cs.map fun c => c.length + 3).sum
def CsOk (cs : List (List G2)) : Prop := ∀ c ∈ cs, Vc c 1 ∧ ∀ r ∈ c, r.gok
section
variable {w : List Nat} {b : Kd}
theorem jn_len (c1 c2 : List G2) : (jn w b c1 c2).length = c1.length + c2.length + 3 := by
  unfold jn
  rw [List.length_append, List.length_append]
  show 3 + c1.length + c2.length = _
  omega
theorem JJ_wt : ∀ cs, wt (JJ w b cs) = wt cs
  | [] => rfl
  | [c] => rfl
  | c1 :: c2 :: cs => by
    have ih := JJ_wt cs
    show (jn w b c1 c2).length + 3 + wt (JJ w b cs) = c1.length + 3 + (c2.length + 3 + wt cs)
    rw [jn_len, ih]; omega
theorem JJ_len : ∀ cs, (JJ w b cs).length = (cs.length + 1) / 2
  | [] => by simp [JJ]
  | [c] => by simp [JJ]
  | c1 :: c2 :: cs => by
    have ih := JJ_len cs
    show (JJ w b cs).length + 1 = (cs.length + 1 + 1 + 1) / 2
    omega
theorem JJ_ok (hw : isName w = true) (hb : b.ok) (hs : b.sz ≤ 1) : ∀ {cs}, CsOk cs → CsOk (JJ w b cs)
  | [], h => h
  | [c], h => h
  | c1 :: c2 :: cs, h => fun c hc => by
    rcases List.mem_cons.mp hc with rfl | hc
    · obtain ⟨v1, g1⟩ := h c1 (by simp)
      obtain ⟨v2, g2⟩ := h c2 (by simp)
      refine ⟨Vc.app (n := 0) (Vc.app (n := 1) (Vc.tip (n := 2) (v1.append v2))), fun r hr => ?_⟩
      rcases List.mem_append.mp hr with hr | hr
      · rcases List.mem_cons.mp hr with rfl | hr
        · trivial
        rcases List.mem_cons.mp hr with rfl | hr
        · trivial
        rcases List.mem_cons.mp hr with rfl | hr
        · exact ⟨.inl hw, ⟨hb, hb, hb⟩, by show b.sz + (b.sz + b.sz + 1) + 1 ≤ 100; omega⟩
        · exact g1 r hr
      · exact g2 r hr
    · exact JJ_ok hw hb hs (fun c hc => h c (by simp [hc])) c hc
theorem wt_mem : ∀ {cs : List (List G2)} {c : List G2}, c ∈ cs → c.length + 3 ≤ wt cs
  | d :: cs, c, h => by
    show _ ≤ d.length + 3 + wt cs
    rcases List.mem_cons.mp h with rfl | h
    · omega
    · have := wt_mem h
      omega
theorem wt_one {c : List G2} : wt [c] = c.length + 3 := by simp [wt]
theorem drop_two {α : Type} {l : List α} {k : Nat} (h : k + 1 < l.length) : ∃ c1 c2, l[k]? = some c1 ∧ l[k + 1]? = some c2 ∧ l.drop k = c1 :: c2 :: l.drop (k + 2) := by
  refine ⟨l[k], l[k + 1], List.getElem?_eq_getElem (by omega), List.getElem?_eq_getElem h, ?_⟩
  rw [List.drop_eq_getElem_cons (by omega), List.drop_eq_getElem_cons h]
theorem drop_one {α : Type} {l : List α} {k : Nat} (h : k + 1 = l.length) : ∃ c1, l[k]? = some c1 ∧ l.drop k = [c1] := by
  refine ⟨l[k], List.getElem?_eq_getElem (by omega), ?_⟩
  rw [List.drop_eq_getElem_cons (by omega), List.drop_eq_nil_of_le (by omega)]
end
def sp_law_wide : Sp := sp3 fun x y z H Q _ => ∃ (a p : Addr) (n : Nat), x = .ref a ∧ y = .ref p ∧ z = .int (n : Int) ∧ 398 ≤ n ∧ n ≤ 402 ∧ Pot a H ∧ NmL H p ∧
  ∀ r H' (c : List G2), DL H' r (gd c) → Vc c 1 → (∀ r ∈ c, r.gok) → c.length ≤ 1000 → Pot a H' → Kb a H H' → Q (.ref r) H'
theorem ok_law_wide (T : Txt w K mg) {fd : FuncData} (F : Fn_law_wide K fd) (hm : mg "_law_wide" = some (.ref (He.ga K "_law_wide"))) (c_law_take : CalX P w K mg base CX0 1 "_law_take" sp_law_take) : CalX P w K mg base CX0 2 "_law_wide" sp_law_wide := by
  refine calx0 (k := 1) F hm sc_law_wide (b_law_wide F) (fun _ _ _ _ h => sp3_len h) (fun cdv A outer s H vs Q E hr h => ?_)
  obtain ⟨x0, x1, x2, rfl, h⟩ := h
  refine ⟨_, (pss_cons (ps_set (i := 3) sc_law_wide.nd rfl (Or.inr rfl) (pe_tup (pa_cons pe_str (pa_cons (pe_ix ix_list (pv 1) pe_int (fun _ _ => rfl)) pa_nil))))
    (pss_cons (ps_set (i := 4) sc_law_wide.nd rfl (Or.inl rfl) (pe_op op_divI (pe_op op_addI (pv 2) pe_int) pe_int))
    (pss_cons (ps_set (i := 5) sc_law_wide.nd rfl (Or.inl rfl) (pe_op op_subI (pv 2) (pe_op op_subI (pe_op op_mulI pe_int (pv 4)) pe_int)))
    (Evl.pss_cut (ps_if (pt_cmpR op_eq (pv 5) pe_int (nomark _))
    (pss_cons (ps_set (i := 4) sc_law_wide.nd rfl (Or.inl rfl) (pe_op op_subI (pv 4) pe_int))
    (pss_one (ps_set (i := 5) sc_law_wide.nd rfl (Or.inl rfl) pe_int)))
    pss_nil)
    (pss_cons (ps_setLc (i := 7) (own := [("k", 6)]) (g := gName 6) (tt := tYes) (by rfl) sc_law_wide.nd rfl rfl (sw_true rfl rfl rfl (by decide +kernel)) (pi_range1 (by rfl) T.f_range (pa_cons (pv 4) pa_nil)) (blkOk_by (own := [("k", 6)]) (N := ["pot", "words", "count", "base", "many", "rest", "k", "line", "pair", "turn", "joined", "code"]) (sc := defScope s_law_wide) (by decide +kernel)) (fun _ _ _ _ _ => pg_name (i := 6) sc_law_wide.nd rfl (Or.inl rfl)) (fun _ _ _ _ _ => pts_nil) (fun _ _ _ _ _ => (pe_lst (pa_cons (pe_tup (pa_cons pe_str (pa_cons (pe_ix (r := rIxL K) ix_list (pv 1) (pe_op op_modI (pe_callTy call_intI (by rfl) T.f_int (by decide +kernel) (pa_cons (pv 6) pa_nil)) pe_int) (fun _ _ => rfl)) (pa_cons (pv 3) pa_nil)))) pa_nil))))
    (pss_cons (ps_set (i := 8) sc_law_wide.nd rfl (Or.inl rfl) (pe_tup (pa_cons pe_str (pa_cons (pe_ix ix_list (pv 1) (pe_cx c_law_take hr (by decide) rfl pass0 (pa_cons (pv 0) (pa_cons pe_int pa_nil))) (fun _ _ => rfl)) (pa_cons (pe_tup (pa_cons pe_str (pa_cons (pv 3) (pa_cons (pe_tup (pa_cons pe_str (pa_cons (pv 3) (pa_cons (pv 3) pa_nil)))) pa_nil)))) pa_nil)))))
    (pss_cons (ps_for PassesOwn.never rfl (pi_range1 (by rfl) T.f_range (pa_cons pe_int pa_nil)) (pg_name (i := 9) sc_law_wide.nd rfl (Or.inl rfl))
    (pss_cons (ps_set (i := 10) sc_law_wide.nd rfl (Or.inl rfl) (pe_lst pa_nil))
    (pss_cons (ps_for PassesOwn.never rfl (pi_range3 (by rfl) T.f_range (pa_cons pe_int (pa_cons (pe_callB call_lenQ (by rfl) T.f_len PySem.boot_len (pa_cons (pv 7) pa_nil)) (pa_cons pe_int pa_nil)))) (pg_name (i := 6) sc_law_wide.nd rfl (Or.inl rfl))
    (pss_one (ps_if (pt_cmpR op_ltI (pe_op op_addI (pv 6) pe_int) (pe_callB call_lenQ (by rfl) T.f_len PySem.boot_len (pa_cons (pv 7) pa_nil)) (nomark _))
    (pss_one (ps_expr (pe_bm PySem.F.plainAttrs_list PySem.F.slot_list_append PySem.F.type_list_append mt_append (pv 10) (pa_cons (pe_op op_cat (pe_op op_cat (pe_lst (pa_cons (pe_tup (pa_cons pe_str pa_nil)) (pa_cons (pe_tup (pa_cons pe_str pa_nil)) (pa_cons (pv 8) pa_nil)))) (pe_ix ix_list (pv 7) (pv 6) (fun _ _ => rfl))) (pe_ix ix_list (pv 7) (pe_op op_addI (pv 6) pe_int) (fun _ _ => rfl))) pa_nil))))
    (pss_one (ps_expr (pe_bm PySem.F.plainAttrs_list PySem.F.slot_list_append PySem.F.type_list_append mt_append (pv 10) (pa_cons (pe_ix ix_list (pv 7) (pv 6) (fun _ _ => rfl)) pa_nil)))))))
    (pss_one (ps_set (i := 7) sc_law_wide.nd rfl (Or.inl rfl) (pv 10))))))
    (pss_cons (ps_set (i := 11) sc_law_wide.nd rfl (Or.inl rfl) (pe_ix ix_list (pv 7) pe_int (fun _ _ => rfl)))
    (Evl.pss_cut (ps_if (pt_cmpR op_gtI (pv 5) pe_int (nomark _))
    (pss_cons (ps_set (i := 11) sc_law_wide.nd rfl (Or.inl rfl) (pe_op op_cat (pe_op op_cat (pe_lst (pa_cons (pe_tup (pa_cons pe_str pa_nil)) (pa_cons (pe_tup (pa_cons pe_str (pa_cons (pv 3) pa_nil))) pa_nil))) (pv 11)) (pe_lst (pa_cons (pe_tup (pa_cons pe_str (pa_cons (pe_ix ix_list (pv 1) pe_int (fun _ _ => rfl)) (pa_cons (pv 3) pa_nil)))) pa_nil))))
    (pss_one (ps_set (i := 5) sc_law_wide.nd rfl (Or.inl rfl) (pe_op op_subI (pv 5) pe_int))))
    pss_nil)
    (pss_cons (ps_if (pt_cmpR op_eq (pv 5) pe_int (nomark _))
    (pss_one (ps_set (i := 11) sc_law_wide.nd rfl (Or.inl rfl) (pe_op op_cat (pe_lst (pa_cons (pe_tup (pa_cons pe_str pa_nil)) (pa_cons (pe_tup (pa_cons pe_str (pa_cons (pe_ix ix_list (pv 1) pe_int (fun _ _ => rfl)) (pa_cons (pe_tup (pa_cons pe_str (pa_cons (pv 3) (pa_cons (pv 3) pa_nil)))) pa_nil)))) pa_nil))) (pv 11))))
    pss_nil)
    (pss_one (ps_ret (pv 11))))))))))))), ?_⟩
  rw [show start ["pot", "words", "count", "base", "many", "rest", "k", "line", "pair", "turn", "joined", "code"] [x0, x1, x2] = [some x0, some x1, some x2, none, none, none, none, none, none, none, none, none] from rfl]
  have ec0 : Str.ofString "named" = S [110,97,109,101,100] := S_ofs (by decide +kernel)
  have ec1 : Str.ofString "const" = S [99,111,110,115,116] := S_ofs (by decide +kernel)
  have ec2 : Str.ofString "to" = S [116,111] := S_ofs (by decide +kernel)
  have ec3 : Str.ofString "var" = S [118,97,114] := S_ofs (by decide +kernel)
  have ec4 : Str.ofString "app" = S [97,112,112] := S_ofs (by decide +kernel)
  have ec5 : Str.ofString "lam" = S [108,97,109] := S_ofs (by decide +kernel)
  rw [ec0, ec1, ec2, ec3, ec4, ec5]
  obtain ⟨a, p, n, rfl, rfl, rfl, hn1, hn2, hP, hW, hQ⟩ := h
  have hpa : p ≠ a := hW.ne hP
  obtain ⟨w0, w1, w2, w3, dW, n0, n1, n2, n3⟩ := hW.four
  have kdg : GK (.nm w0) := ⟨.inl n0, by show 1 ≤ 100; omega⟩
  try dsimp only [cxOf]
  walk_at "v"
  refine ev_go (d := (Kd.nm w0).d) (by walk_at "d") (fun x3 H3 s3 t3 => ?_)
  have P3 := hP.same s3
  have dW3 := dW.same s3
  walk_at "v"
  refine w_divI ⟨by omega, by omega⟩ ?_
  walk_at "v"
  refine w_mulI (.inl (by omega)) ?_
  walk_at "v"
  obtain ⟨M, R, hM, hR, hMR⟩ : ∃ (M : Nat) (R : Int), ((n : Int) + 3) / 4 = (M : Int) ∧ (n : Int) - (4 * (((n : Int) + 3) / 4) - 3) = R ∧ (99 ≤ M ∧ M ≤ 101) := ⟨(n + 3) / 4, _, by omega, rfl, by omega, by omega⟩
  rw [hM] at hR ⊢
  rw [hR]
  refine w_mid (fun σ H' => H' = H3 ∧ ∃ (M : Nat) (R : Int), 1 ≤ M ∧ M ≤ 101 ∧ σ = [some (.ref a), some (.ref p), some (.int (n : Int)), some x3, some (.int (M : Int)), some (.int R), none, none, none, none, none, none]) ?_ ?_
  · walk_at "v"
    refine w_b (fun _ => ?_) (fun _ => ⟨rfl, M, R, by omega, by omega, rfl⟩)
    walk_at "v"
    exact ⟨rfl, M - 1, 5, by omega, by omega, by rw [show ((M : Int) - 1) = ((M - 1 : Nat) : Int) by omega]⟩
  clear hM hR hMR
  rintro σ H' ⟨rfl, M, R, hM1, hM2, rfl⟩
  walk_at "v"
  refine w_rg1 (by omega) (by omega) ?_
  rw [show ((M : Int)).toNat = M from Int.toNat_natCast _]
  intro D hD
  refine lc_range (fun i H1 => Same H' H1 ∧ ∃ cs : List (List G2), LL H1 D cs ∧ cs.length = i ∧ CsOk cs ∧ wt cs = 4 * i) ⟨same_upd hD, [], LL.nil_ upd_same, rfl, (fun c hc => by cases hc), rfl⟩ ?_ ?_
  · rintro i H1 hi ⟨sm, cs, ll, hcl, hok, hwt⟩
    have hi : i < M := hi
    dsimp only [gName]
    refine ⟨rfl, ?_⟩
    walk_at "v"
    refine w_lstN ?_
    walk_at "v"
    refine w_tupN ?_
    walk_at "v"
    refine w_modI (by omega) ?_
    rw [show ((0 : Int) + (i : Int)) % 4 = ((i % 4 : Nat) : Int) by omega]
    refine ((hW.same s3).same sm).ix (i := i % 4) (by omega) (fun w nw => ?_)
    walk_at "v"
    refine t_new (ds := [.str (S wVAR), .str (S w), (Kd.nm w0).d]) (.cons (.str _) (.cons (.str _) (.cons (t3.tm (Tm.same sm)) .nil))) (fun p4 H4 hp4 s4 t4 => ?_)
    walk_at "v"
    refine l_new (ds := gd [.tip (.var w (.nm w0))]) (.cons t4 .nil) (fun p5 H5 hp5 s5 d5 => ?_)
    have ll5 := (ll.same s4).same s5
    have ll5' := ll5
    obtain ⟨xs, e, l, _⟩ := ll5'
    have hne : p5 ≠ D := fun z => by
      obtain ⟨_, e', _⟩ := ll.same s4
      rw [z] at hp5
      rw [hp5] at e'; cases e'
    have ex : Ex D H5 (upd H5 D (.lst (xs ++ [.ref p5]))) := fun b hb => upd_ne hb
    refine ⟨_, e, szl (show xs.length + 1 ≤ 100000 by omega), ⟨((sm.tr s4).tr s5).ex hD ex, cs ++ [[.tip (.var w (.nm w0))]], LL.snoc ll5 e d5 hne, by rw [List.length_append, hcl]; rfl, fun c hc => ?_, ?_⟩⟩
    · rcases List.mem_append.mp hc with hc | hc
      · exact hok c hc
      · rw [List.mem_singleton.mp hc]
        exact ⟨Vc.tip Vc.nil, fun r hr => by rw [List.mem_singleton.mp hr]; exact ⟨nw, kdg⟩⟩
    · unfold wt at hwt ⊢
      rw [List.map_append, List.sum_append, hwt]
      show 4 * i + (1 + 3 + 0) = _
      omega
  rintro H1 ⟨sm, cs, ll, hcl, hok, hwt⟩
  walk_at "v"
  refine w_tupN ?_
  walk_at "v"
  have P1 := P3.same sm
  refine ⟨_, _, rfl, a, 4, rfl, rfl, by omega, by omega, P1, fun v2 H2 hv2 P2 k2 => ?_⟩
  walk_at "v"
  have hDa : D ≠ a := Pot.ne P3 hD
  have ll2 : LL H2 D cs := by
    obtain ⟨xs, e, l, f⟩ := ll
    refine ⟨xs, k2 _ _ hDa e, l, fun i c z => ?_⟩
    obtain ⟨r, a1, b1, c1⟩ := f i c z
    exact ⟨r, a1, DLkb b1 P1 k2 (DL.ne_pot b1 P1 (gd_ne_int)), c1⟩
  have hW2 := ((hW.same s3).same sm).kb P1 k2 hpa
  refine hW2.ix hv2 (fun wp nwp => ?_)
  have t32 := (t3.tm (Tm.same sm)).tm (Kb.pot_tm P1 k2)
  walk_at "v"
  refine w_tupN ?_
  walk_at "v"
  refine w_tupN ?_
  walk_at "v"
  refine t_new (ds := [.str (S wTO), (Kd.nm w0).d, (Kd.nm w0).d]) (.cons (.str _) (.cons t32 (.cons t32 .nil))) (fun p4 H4 hp4 s4 t4 => ?_)
  walk_at "v"
  refine t_new (ds := [.str (S wTO), (Kd.nm w0).d, (Kd.to (.nm w0) (.nm w0)).d]) (.cons (.str _) (.cons (t32.tm (Tm.same s4)) (.cons t4 .nil))) (fun p5 H5 hp5 s5 t5 => ?_)
  walk_at "v"
  refine t_new (ds := [.str (S wCONST), .str (S wp), (Kd.to (.nm w0) (.to (.nm w0) (.nm w0))).d]) (.cons (.str _) (.cons (.str _) (.cons t5 .nil))) (fun p6 G hp6 s6 t6 => ?_)
  have s26 := (s4.tr s5).tr s6
  have llG := ll2.same s26
  have tG := t32.tm (Tm.same s26)
  have tp : TD G (.ref p6) (upR (.tip (.cst wp (.to (.nm w0) (.to (.nm w0) (.nm w0)))))).d := t6
  have PG := P2.same s26
  have kG : Kb a H G := ((Kb.same (s3.tr sm)).tr k2).then s26
  have dWG := (DLkb (dW3.same sm) P1 k2 hpa).same s26
  generalize V.ref p6 = xp at tp
  clear t6
  walk_at "v"
  refine w_rg1 (by omega) (by omega) ?_
  refine for_range (fun i σ G' => Same G G' ∧ ∃ (line : Addr) (cs : List (List G2)) (u6 u9 u10 u11 : Option V), σ = [some (.ref a), some (.ref p), some (.int (n : Int)), some x3, some (.int (M : Int)), some (.int R), u6, some (.ref line), some xp, u9, u10, u11] ∧ LL G' line cs ∧ CsOk cs ∧ wt cs ≤ 404 ∧ 1 ≤ cs.length ∧ cs.length ≤ 2 ^ (7 - i))
    ⟨Same.refl' _, D, cs, _, _, _, _, rfl, llG, hok, by omega, by omega, by show cs.length ≤ 128; omega⟩ ?_ ?_
  · rintro i σ G1 hi ⟨sG, line, cs, u6, u9, u10, u11, rfl, ll, hok, hwt, hl1, hl2⟩
    have hi : i < 7 := hi
    dsimp only [gName]
    walk_at "v"
    refine w_lstN ?_
    walk_at "v"
    refine n_L (fun j Hj hj sj ej => ?_)
    walk_at "v"
    refine (ll.same sj).len ?_
    walk_at "v"
    have hcl3 : cs.length ≤ 128 := Nat.le_trans hl2 (show 2 ^ (7 - i) ≤ 2 ^ 7 from Nat.pow_le_pow_right (by omega) (by omega))
    refine ⟨_, _, _, _, rfl, rg2 _ (by omega), ?_⟩
    refine for_rangeC (fun i' σ G' => Same G1 G' ∧ ∃ (ds : List (List G2)) (u6 : Option V), σ = [some (.ref a), some (.ref p), some (.int (n : Int)), some x3, some (.int (M : Int)), some (.int R), u6, some (.ref line), some xp, some (.int (0 + (i : Int))), some (.ref j), u11] ∧ LL G' j ds ∧ ds.length ≤ i' ∧ ds ++ JJ wp (.nm w0) (cs.drop (2 * i')) = JJ wp (.nm w0) cs)
      ⟨sj, [], _, rfl, LL.nil_ ej, Nat.le_refl _, rfl⟩ ?_ ?_
    · rintro i' σ G2' hi' ⟨s2, ds, u6, rfl, lj, hdl, hds⟩
      have hi' : i' < (cs.length + 1) / 2 := hi'
      dsimp only [gName]
      walk_at "v"
      rw [show ((0 : Int) + (i' : Int) * 2) = ((2 * i' : Nat) : Int) by omega]
      refine (ll.same s2).len ?_
      walk_at "v"
      have fresh : ∀ {r : Addr} {c : List G2}, DL G1 r (gd c) → r ≠ j := fun d z => by
        obtain ⟨_, e⟩ := d.lst
        rw [z, hj] at e; cases e
      have jlst : ∃ xs, G2' j = some (.lst xs) := let ⟨xs, e, _⟩ := lj; ⟨xs, e⟩
      by_cases hk : 2 * i' + 1 < cs.length
      · rw [decide_eq_true (show ((2 * i' : Nat) : Int) + 1 < (cs.length : Int) by omega)]
        obtain ⟨c1, c2, e1, e2, e3⟩ := drop_two hk
        walk_at "v"
        refine lj.ty ?_
        walk_at "v"
        have tp2 := tp.tm (Tm.same (sG.tr s2))
        refine ev_lst (ds := gd [.app, .app, .tip (.cst wp (.to (.nm w0) (.to (.nm w0) (.nm w0))))]) (eva_cons (ev_tup (eva_cons ev_str eva_nil)) (eva_cons (ev_tup (eva_cons ev_str eva_nil)) (eva_cons (ev_var rfl tp2) eva_nil))) (fun l3 H3 h3 s3' d3 => ?_)
        walk_at "v"
        refine ll.ix (s2.tr s3') e1 (fun r1 d1 => ?_)
        have z1 : c1.length ≤ 404 := by
          have : c1 ∈ cs := List.mem_of_getElem? e1
          have := wt_mem this
          omega
        have z2 : c2.length ≤ 404 := by
          have : c2 ∈ cs := List.mem_of_getElem? e2
          have := wt_mem this
          omega
        refine l_cat d3 (d1.same (s2.tr s3')) (fun l4 H4 h4 s4' d4 => ?_) (by rw [gd_len, gd_len]; show 3 + c1.length ≤ 100000; omega)
        rw [← gd_app] at d4
        walk_at "v"
        rw [show ((2 * i' : Nat) : Int) + 1 = ((2 * i' + 1 : Nat) : Int) by omega]
        refine ll.ix ((s2.tr s3').tr s4') e2 (fun r2 d2 => ?_)
        refine l_cat d4 (d2.same ((s2.tr s3').tr s4')) (fun l5 H5 h5 s5' d5 => ?_) (by rw [gd_len, gd_len, List.length_append]; show 3 + c1.length + c2.length ≤ 100000; omega)
        rw [← gd_app] at d5
        walk_at "v"
        have s25 := (s3'.tr s4').tr s5'
        have hne : l5 ≠ j := fun z => by
          obtain ⟨_, e⟩ := jlst
          rw [z, (s3'.tr s4') _ _ e] at h5; cases h5
        refine (lj.same s25).app d5 hne (by omega) (fun H6 lj6 x6 => ?_)
        walk_at "v"
        exact ⟨(s2.tr s25).ex hj x6, _, _, rfl, lj6, by rw [List.length_append]; show ds.length + 1 ≤ i' + 1; omega, by
          rw [← hds, e3, show 2 * (i' + 1) = 2 * i' + 2 by omega, List.append_assoc]; rfl⟩
      · rw [decide_eq_false (show ¬ ((2 * i' : Nat) : Int) + 1 < (cs.length : Int) by omega)]
        obtain ⟨c1, e1, e3⟩ := drop_one (show 2 * i' + 1 = cs.length by omega)
        walk_at "v"
        refine lj.ty ?_
        walk_at "v"
        refine ll.ix s2 e1 (fun r1 d1 => ?_)
        walk_at "v"
        refine lj.app (d1.same s2) (fresh d1) (by omega) (fun H6 lj6 x6 => ?_)
        walk_at "v"
        exact ⟨s2.ex hj x6, _, _, rfl, lj6, by rw [List.length_append]; show ds.length + 1 ≤ i' + 1; omega, by
          rw [← hds, e3, List.drop_eq_nil_of_le (by omega)]
          show (ds ++ [c1]) ++ [] = ds ++ [c1]
          rw [List.append_nil]⟩
    · rintro σ G2' ⟨s2, ds, u6, rfl, lj, hdl, hds⟩
      walk_at "v"
      rw [List.drop_eq_nil_of_le (by omega)] at hds
      have hds : ds = JJ wp (.nm w0) cs := by rw [← hds]; exact (List.append_nil _).symm
      subst hds
      refine ⟨sG.tr s2, j, _, _, _, _, _, rfl, lj, JJ_ok (b := .nm w0) nwp (.inl n0) (Nat.le_refl _) hok, by rw [JJ_wt]; exact hwt, by rw [JJ_len]; omega, ?_⟩
      rw [JJ_len]
      rw [show 7 - i = (7 - (i + 1)) + 1 by omega, Nat.pow_succ] at hl2
      omega
  · rintro σ G1 ⟨sG, line, cs, u6, u9, u10, u11, rfl, ll, hok, hwt, hl1, hl2⟩
    have hl2 : cs.length ≤ 1 := hl2
    obtain ⟨c, rfl⟩ : ∃ c, cs = [c] := by
      match cs, hl1, hl2 with
      | [c], _, _ => exact ⟨c, rfl⟩
    obtain ⟨vc, gk⟩ := hok c List.mem_cons_self
    rw [wt_one] at hwt
    walk_at "v"
    refine ll.ix (i := 0) (Same.refl' _) rfl (fun r dr => ?_)
    walk_at "v"
    have tG1 := tG.tm (Tm.same sG)
    have dWG1 := dWG.same sG
    have gok3 : ∀ {c : List G2} {r : G2}, (∀ r ∈ c, r.gok) → r.gok → ∀ x ∈ r :: c, Rw.gok x := fun h1 h2 x hx => by
      rcases List.mem_cons.mp hx with rfl | hx
      · exact h2
      · exact h1 x hx
    refine w_mid (fun σ G' => Same G G' ∧ ∃ (r : Addr) (c : List G2) (R : Int), σ = [some (.ref a), some (.ref p), some (.int (n : Int)), some x3, some (.int (M : Int)), some (.int R), u6, some (.ref line), some xp, u9, u10, some (.ref r)] ∧ DL G' r (gd c) ∧ Vc c 1 ∧ (∀ r ∈ c, r.gok) ∧ c.length ≤ 410) ?_ ?_
    · walk_at "v"
      refine w_dec (fun _ => ?_) (fun _ => ⟨sG, r, c, R, rfl, dr, vc, gk, by omega⟩)
      walk_at "v"
      refine ev_lst (ds := gd [.app, .lam (.nm w0)]) (by walk_at "d") (fun l3 H3 h3 s3' d3 => ?_)
      walk_at "v"
      refine l_cat d3 (dr.same s3') (fun l4 H4 h4 s4' d4 => ?_) (by rw [gd_len, gd_len]; show 2 + c.length ≤ 100000; omega)
      rw [← gd_app] at d4
      walk_at "v"
      have dWG4 := dWG1.same (s3'.tr s4')
      have tG4 := tG1.tm (Tm.same (s3'.tr s4'))
      refine ev_lst (ds := gd [.tip (.cst w1 (.nm w0))]) (by walk_at "d") (fun l5 H5 h5 s5' d5 => ?_)
      walk_at "v"
      refine l_cat (d4.same s5') d5 (fun l6 H6 h6 s6' d6 => ?_) (by rw [gd_len, gd_len, List.length_append]; show 2 + c.length + 1 ≤ 100000; omega)
      rw [← gd_app] at d6
      walk_at "v"
      refine ⟨sG.tr (((s3'.tr s4').tr s5').tr s6'), l6, _, R - 3, rfl, d6, Vc.app (n := 0) (Vc.lam (n := 1) (vc.append (Vc.tip Vc.nil))), fun x hx => ?_, by rw [List.length_append, List.length_append]; show 2 + c.length + 1 ≤ 410; omega⟩
      rcases List.mem_append.mp hx with hx | hx
      · exact gok3 (r := .app) (gok3 (r := .lam (.nm w0)) gk kdg) trivial x hx
      · rw [List.mem_singleton.mp hx]; exact ⟨.inl n1, kdg⟩
    rintro σ G4 ⟨s4', r, c, R', rfl, dr, vc, gk, hcl⟩
    have tG1 := tG.tm (Tm.same s4')
    have dWG1 := dWG.same s4'
    walk_at "v"
    refine w_b (fun _ => ?_) (fun _ => ?_)
    · walk_at "v"
      refine ev_lst (ds := gd [.app, .tip (.cst w2 (.to (.nm w0) (.nm w0)))]) (by walk_at "d") (fun l3 H3 h3 s3' d3 => ?_)
      walk_at "v"
      refine l_cat d3 (dr.same s3') (fun l5 H5 h5 s5' d5 => ?_) (by rw [gd_len, gd_len]; show 2 + c.length ≤ 100000; omega)
      rw [← gd_app] at d5
      walk_at "v"
      have sG5 := s4'.tr (s3'.tr s5')
      exact hQ l5 H5 _ d5 (Vc.app (n := 0) (Vc.tip (n := 1) vc)) (gok3 (r := .app) (gok3 (r := .tip (.cst w2 (.to (.nm w0) (.nm w0)))) gk ⟨.inl n2, ⟨.inl n0, .inl n0⟩, by show 1 + 1 + 1 ≤ 100; omega⟩) trivial) (by rw [List.length_append]; show 2 + c.length ≤ 1000; omega) (PG.same sG5) (kG.then sG5)
    · walk_at "v"
      exact hQ r G4 c dr vc gk (by omega) (PG.same s4') (kG.then s4')
end
end K02

namespace K02
open PySem PySem.Spec PyProof.Rows L2 SX
local macro_rules | `(tactic| walk_at "w1") => `(tactic| (first
  | with_reducible refine w_seq ?_ | with_reducible refine w_asgN ?_ | with_reducible refine w_c ?_
  | ((with_reducible refine' w_var ?wv ?_); (case wv => exact rfl))
  | with_reducible refine w_op ?_ | with_reducible refine w_un ?_ | with_reducible refine w_next ?_ | with_reducible refine w_brk ?_ | with_reducible refine w_cnt ?_
  | with_reducible refine w_ifS ?_ | with_reducible refine w_if ?_ | with_reducible refine w_test ?_ | with_reducible refine w_tB ?_ | with_reducible refine w_bl ?_ | with_reducible refine w_blI ?_
  | with_reducible refine w_and ?_ | with_reducible refine w_or ?_ | with_reducible refine w_not ?_ | with_reducible refine w_andV ?_ | with_reducible refine w_orV ?_ | with_reducible refine w_notV ?_
  | with_reducible refine w_nil ?_ | with_reducible refine w_cons ?_ | with_reducible refine w_cb ?_ | with_reducible refine w_call ?_ | with_reducible refine w_callS ?_ | with_reducible refine w_chain ?_
  | with_reducible refine w_tupN ?_ | with_reducible refine w_lstN ?_ | with_reducible refine w_sl ?_ | with_reducible refine w_noPart ?_ | with_reducible refine w_part ?_ | with_reducible refine w_partI ?_
  | with_reducible refine w_ret ?_ | with_reducible refine w_retN ?_ | with_reducible refine w_drop ?_ | with_reducible refine w_asg ?_ | with_reducible refine w_gSub ?_
  | ((with_reducible refine' w_aug ?wv ?_); (case wv => exact rfl)) | with_reducible refine w_ipI ?_
  | with_reducible refine w_addI ?_ | with_reducible refine w_subI ?_ | with_reducible refine w_ltI ?_ | with_reducible refine w_leI ?_ | with_reducible refine w_gtI ?_ | with_reducible refine w_geI ?_
  | with_reducible refine w_eqI ?_ | with_reducible refine w_neI ?_ | with_reducible refine w_eqT ?_ | with_reducible refine w_neT ?_ | with_reducible refine w_inS ?_ | with_reducible refine w_ninS ?_
  | with_reducible refine w_absI ?_ | with_reducible refine w_intI ?_ | with_reducible refine w_maxI ?_ | with_reducible refine w_minI ?_
  | with_reducible refine w_for ?_ | with_reducible refine w_iR1 ?_ | with_reducible refine w_iR2 ?_ | with_reducible refine w_iStr ?_ | with_reducible refine w_strI ?_ | with_reducible refine w_iList ?_ | with_reducible refine w_iTup ?_
  | with_reducible refine w_bm ?_ | with_reducible refine w_bm0 ?_ | with_reducible refine w_t ?_ | with_reducible refine w_f ?_ | with_reducible refine w_nt ?_ | with_reducible refine w_nx ?_ | with_reducible refine w_rt ?_ | with_reducible refine w_bk ?_ | with_reducible refine w_ct ?_ | with_reducible refine w_nf ?_ | with_reducible refine w_lc ?_ | with_reducible refine w_yes ?_ | with_reducible refine w_neg ?_ | with_reducible refine w_intB ?_ | with_reducible refine w_fld ?_ | with_reducible refine w_setf ?_ | with_reducible refine w_faug ?_ | with_reducible refine w_meth ?_ | with_reducible refine w_bmS ?_ | with_reducible refine w_start ?_ | with_reducible refine w_revL ?_ | with_reducible refine w_iR3 ?_))
local macro_rules | `(tactic| walk_at "w") => `(tactic| (repeat (first | walk_at "w1" | dsimp (config := { proj := false }) only [List.set_cons_zero, List.set_cons_succ])))
section
variable {w : World} {K : PySem.W.Frag} {mg : Str → Option Value} {base : Heap}
local macro_rules | `(tactic| walk_at "v1") => `(tactic| (first
  | with_reducible refine w_seq ?_ | with_reducible refine w_asgN ?_ | with_reducible refine w_c ?_
  | ((with_reducible refine' w_var ?wv ?_); (case wv => exact rfl))
  | with_reducible refine w_op ?_ | with_reducible refine w_un ?_ | with_reducible refine w_next ?_ | with_reducible refine w_brk ?_ | with_reducible refine w_cnt ?_
  | with_reducible refine w_ifS ?_ | with_reducible refine w_if ?_ | with_reducible refine w_test ?_ | with_reducible refine w_tB ?_ | with_reducible refine w_bl ?_ | with_reducible refine w_blI ?_
  | with_reducible refine w_and ?_ | with_reducible refine w_or ?_ | with_reducible refine w_not ?_ | with_reducible refine w_andV ?_ | with_reducible refine w_orV ?_ | with_reducible refine w_notV ?_
  | with_reducible refine w_nil ?_ | with_reducible refine w_cons ?_ | with_reducible refine w_cb ?_ | with_reducible refine w_call ?_ | with_reducible refine w_callS ?_ | with_reducible refine w_chain ?_
  | with_reducible refine w_sl ?_ | with_reducible refine w_noPart ?_ | with_reducible refine w_part ?_ | with_reducible refine w_partI ?_
  | with_reducible refine w_ret ?_ | with_reducible refine w_retN ?_ | with_reducible refine w_drop ?_ | with_reducible refine w_asg ?_ | with_reducible refine w_gSub ?_
  | ((with_reducible refine' w_aug ?wv ?_); (case wv => exact rfl)) | with_reducible refine w_ipI ?_
  | with_reducible refine w_addI ?_ | with_reducible refine w_subI ?_ | with_reducible refine w_ltI ?_ | with_reducible refine w_leI ?_ | with_reducible refine w_gtI ?_ | with_reducible refine w_geI ?_
  | with_reducible refine w_eqI ?_ | with_reducible refine w_neI ?_ | with_reducible refine w_eqT ?_ | with_reducible refine w_neT ?_ | with_reducible refine w_inS ?_ | with_reducible refine w_ninS ?_
  | with_reducible refine w_absI ?_ | with_reducible refine w_intI ?_ | with_reducible refine w_maxI ?_ | with_reducible refine w_minI ?_
  | with_reducible refine w_for ?_ | with_reducible refine w_iR1 ?_ | with_reducible refine w_iR2 ?_ | with_reducible refine w_iStr ?_ | with_reducible refine w_strI ?_ | with_reducible refine w_iList ?_ | with_reducible refine w_iTup ?_
  | with_reducible refine w_bm ?_ | with_reducible refine w_bm0 ?_ | with_reducible refine w_t ?_ | with_reducible refine w_f ?_ | with_reducible refine w_nt ?_ | with_reducible refine w_nx ?_ | with_reducible refine w_rt ?_ | with_reducible refine w_bk ?_ | with_reducible refine w_ct ?_ | with_reducible refine w_nf ?_ | with_reducible refine w_lc ?_ | with_reducible refine w_yes ?_ | with_reducible refine w_neg ?_ | with_reducible refine w_intB ?_ | with_reducible refine w_fld ?_ | with_reducible refine w_setf ?_ | with_reducible refine w_faug ?_ | with_reducible refine w_meth ?_ | with_reducible refine w_bmS ?_ | with_reducible refine w_start ?_ | with_reducible refine w_revL ?_ | with_reducible refine w_iR3 ?_))
local macro_rules | `(tactic| walk_at "v") => `(tactic| (repeat (first | walk_at "v1" | dsimp (config := { proj := false }) only [List.set_cons_zero, List.set_cons_succ])))
local macro_rules | `(tactic| walk_at "d") => `(tactic| (repeat (first | exact eva_nil | refine eva_cons ?_ ?_ | exact ev_str | exact ev_int | exact ev_neg | refine ev_tup ?_ | (refine ev_var rfl ?_; assumption))))


def sp_law_round : Sp := sp3 fun x y z H Q _ => ∃ (a p q : Addr), x = .ref a ∧ y = .ref p ∧ z = .ref q ∧ Bn a p q H H ∧ ∀ H', Pot a H' → Kb a H H' → Q (.bl true) H'
theorem ok_law_round (T : Txt w K mg) {fd : FuncData} (F : Fn_law_round K fd) (hm : mg "_law_round" = some (.ref (He.ga K "_law_round"))) (c_law_take : CalX P w K mg base CX0 1 "_law_take" sp_law_take)(c_law_wide : CalX P w K mg base CX0 2 "_law_wide" sp_law_wide)(c_law_deep : CalX P w K mg base CX0 2 "_law_deep" sp_law_deep)(c_law_ask : CalG P w K mg base CX0 55 "_law_ask" sp_law_ask)(c_law_ask_logical : CalG P w K mg base CX0 56 "_law_ask_logical" sp_law_ask_logical)(c_law_ask_general : CalG P w K mg base CX0 56 "_law_ask_general" sp_law_ask_general) : CalG P w K mg base CX0 57 "_law_round" sp_law_round := by
  refine calg0 (k := 56) F hm sc_law_round (b_law_round F) (fun _ _ _ _ h => sp3_len h) (fun cdv A outer s H vs Q E hr h => ?_)
  obtain ⟨x0, x1, x2, rfl, h⟩ := h
  refine ⟨_, (pss_cons (ps_set (i := 3) sc_law_round.nd rfl (Or.inl rfl) (pe_op op_addI pe_int (pe_cx c_law_take hr.toRoom (by decide) rfl pass0 (pa_cons (pv 0) (pa_cons pe_int pa_nil)))))
    (pss_cons (ps_if (pt_cmpR op_eq (pv 3) pe_int (nomark _))
    (pss_one (ps_ret (pe_cg c_law_ask hr (by decide) rfl pass0 (pa_cons (pe_cx c_law_wide hr.toRoom (by decide) rfl pass0 (pa_cons (pv 0) (pa_cons (pv 1) (pa_cons (pe_op op_addI pe_int (pe_cx c_law_take hr.toRoom (by decide) rfl pass0 (pa_cons (pv 0) (pa_cons pe_int pa_nil)))) pa_nil)))) (pa_cons pe_bl pa_nil)))))
    pss_nil)
    (pss_cons (ps_if (pt_cmpR op_eq (pv 3) pe_int (nomark _))
    (pss_one (ps_ret (pe_cg c_law_ask hr (by decide) rfl pass0 (pa_cons (pe_cx c_law_deep hr.toRoom (by decide) rfl pass0 (pa_cons (pv 0) (pa_cons (pv 1) pa_nil))) (pa_cons pe_bl pa_nil)))))
    pss_nil)
    (pss_cons (ps_if (pt_cmpR op_eq (pv 3) pe_int (nomark _))
    (pss_one (ps_ret (pe_cg c_law_ask_logical hr (by decide) rfl pass0 (pa_cons (pv 0) (pa_cons (pv 1) (pa_cons (pv 2) pa_nil))))))
    pss_nil)
    (pss_one (ps_ret (pe_cg c_law_ask_general hr (by decide) rfl pass0 (pa_cons (pv 0) (pa_cons (pv 1) (pa_cons (pv 2) (pa_cons (pv 3) pa_nil))))))))))), ?_⟩
  rw [show start ["pot", "words", "pool", "way"] [x0, x1, x2] = [some x0, some x1, some x2, none] from rfl]
  obtain ⟨a, p, q, rfl, rfl, rfl, B, hQ⟩ := h
  try dsimp only [cxOf]
  walk_at "v"
  refine ⟨_, _, rfl, a, 10, rfl, rfl, by omega, by omega, B.pot, fun v1 H1 hv1 P1 k1 => ?_⟩
  walk_at "v"
  have B1 := B.kb P1 k1
  rw [show ((1 : Int) + (v1 : Int)) = ((1 + v1 : Nat) : Int) by omega]
  by_cases w8 : ((1 + v1 : Nat) : Int) = 8
  · rw [decide_eq_true w8]
    walk_at "v"
    refine ⟨_, _, rfl, a, 5, rfl, rfl, by omega, by omega, P1, fun v2 H2 hv2 P2 k2 => ?_⟩
    walk_at "v"
    have B2 := B1.kb P2 k2
    rw [show ((398 : Int) + (v2 : Int)) = ((398 + v2 : Nat) : Int) by omega]
    refine ⟨_, _, _, rfl, a, p, 398 + v2, rfl, rfl, rfl, by omega, by omega, P2, B2.1, fun r H3 c d3 vc gk hl P3 k3 => ?_⟩
    walk_at "v"
    exact askG d3 vc gk (by omega) fun H' s' => hQ H' (P3.same s') ((B2.k.tr k3).then s')
  rw [decide_eq_false w8]
  walk_at "v"
  by_cases w9 : ((1 + v1 : Nat) : Int) = 9
  · rw [decide_eq_true w9]
    walk_at "v"
    refine ⟨_, _, rfl, a, p, rfl, rfl, P1, B1.1, fun r H3 c hr3 d3 vc gk hl P3 k3 => ?_⟩
    walk_at "v"
    exact askG d3 vc gk (by omega) fun H' s' => hQ H' (P3.same s') ((B1.k.tr k3).then s')
  rw [decide_eq_false w9]
  walk_at "v"
  have B11 : Bn a p q H1 H1 := ⟨B1.1, B1.2.1, B1.2.2.1, Kb.refl _ _⟩
  by_cases w10 : ((1 + v1 : Nat) : Int) = 10
  · rw [decide_eq_true w10]
    walk_at "v"
    exact ⟨_, _, _, rfl, a, p, q, rfl, rfl, rfl, B11, fun H' P' k' => hQ H' P' (k1.tr k')⟩
  rw [decide_eq_false w10]
  walk_at "v"
  exact ⟨_, _, _, _, rfl, a, p, q, 1 + v1, rfl, rfl, rfl, rfl, B11, fun H' P' k' => hQ H' P' (k1.tr k')⟩

def sp_law (K : PySem.W.Frag) : Sp := sp1 fun x H Q _ => ∃ (a : Addr) (ns : List Int), x = .ref a ∧ SqL K H a (ns.map V.int) ∧ ns.length ≤ 63 ∧ ∀ H', Q (.bl true) H'
theorem law_ok (T : Txt w K mg) {fd : FuncData} (F : Fn_law K fd) (c_law_pot : CalX P w K mg base CX0 1 "_law_pot" (sp_law_pot K)) (c_law_words : CalX P w K mg base CX0 3 "_law_words" sp_law_words) (c_law_pool : CalX P w K mg base CX0 2 "_law_pool" sp_law_pool) (c_law_round : CalG P w K mg base CX0 57 "_law_round" sp_law_round) : FnG P w K mg base CX0 58 (He.ga K "law") fd ["script"] (sp_law K) := by
  refine F.okG sc_law (fun _ _ _ _ h => sp1_len h) (fun cdv A outer s H vs Q E hr h => ?_)
  obtain ⟨x0, rfl, h⟩ := h
  refine ⟨_, PSs.nox (pss_cons (ps_if (PW.pt (pw_or (pt_cmpR op_ne (pe_gv T.v_MAX_NODES) pe_int (nomark _)) (pw_or (pt_cmpR op_ne (pe_gv T.v_MAX_DEPTH) pe_int (nomark _)) (pw_or (pt_val (pe_callB call_isi (by rfl) T.f_isinstance (by decide +kernel) (pa_cons (pe_gv T.v_MAX_NODES) (pa_cons (pe_bltn (v := .ty "bool") (by rfl) T.f_bool (by decide +kernel) rfl) pa_nil)))) (pw_or1 (pt_val (pe_callB call_isi (by rfl) T.f_isinstance (by decide +kernel) (pa_cons (pe_gv T.v_MAX_DEPTH) (pa_cons (pe_bltn (v := .ty "bool") (by rfl) T.f_bool (by decide +kernel) rfl) pa_nil)))))))))
    (pss_one (ps_ret pe_bl))
    pss_nil)
    (pss_cons (ps_for PassesOwn.never rfl (pi_range1 (by rfl) T.f_range (pa_cons (pe_callB (call_maxI rfl) (by rfl) T.f_max (by decide +kernel) (pa_cons pe_int (pa_cons (pe_callB (call_minI rfl) (by rfl) T.f_min (by decide +kernel) (pa_cons pe_int (pa_cons (pe_callB call_lenQ (by rfl) T.f_len PySem.boot_len (pa_cons (pv 0) pa_nil)) pa_nil))) pa_nil))) pa_nil)) (pg_name (i := 1) sc_law.nd rfl (Or.inl rfl))
    (pss_cons (ps_set (i := 2) sc_law.nd rfl (Or.inl rfl) (pe_cx c_law_pot hr.toRoom (by decide) rfl pass0 (pa_cons (pv 0) (pa_cons (pv 1) pa_nil))))
    (pss_cons (ps_set (i := 3) sc_law.nd rfl (Or.inl rfl) (pe_cx c_law_words hr.toRoom (by decide) rfl pass0 (pa_cons (pv 2) pa_nil)))
    (pss_cons (ps_set (i := 4) sc_law.nd rfl (Or.inl rfl) (pe_cx c_law_pool hr.toRoom (by decide) rfl pass0 (pa_cons (pv 2) (pa_cons (pv 3) pa_nil))))
    (pss_one (ps_if (PW.pt (pw_or (pt_not (pt_val (pe_cg c_law_round hr (by decide) rfl pass0 (pa_cons (pv 2) (pa_cons (pv 3) (pa_cons (pv 4) pa_nil)))))) (pw_or1 (pt_not (pt_val (pe_cg c_law_round hr (by decide) rfl pass0 (pa_cons (pv 2) (pa_cons (pv 3) (pa_cons (pv 4) pa_nil)))))))))
    (pss_one (ps_ret pe_bl))
    pss_nil))))))
    (pss_one (ps_ret pe_bl)))), ?_⟩
  rw [show start ["script", "k", "pot", "words", "pool"] [x0] = [some x0, none, none, none, none] from rfl]
  obtain ⟨a, ns, rfl, hS, hn, hQ⟩ := h
  try dsimp only [cxOf]
  walk_at "v"
  have hib : PySem.W.kitOne K (.type "int") (.type "bool") = some false := kit_ty (by decide +kernel)
  rw [show (!decide ((400 : Int) = 400)) = false from by decide]
  walk_at "v"
  rw [show (!decide ((50 : Int) = 50)) = false from by decide]
  walk_at "v"
  refine w_isi (.base (.int _)) hib ?_
  walk_at "v"
  refine w_isi (.base (.int _)) hib ?_
  walk_at "v"
  refine w_lenL hS ?_
  rw [List.length_map]
  walk_at "v"
  obtain ⟨M, hM, hM1, hM2⟩ : ∃ M : Nat, (if (if (ns.length : Int) < 4 then (ns.length : Int) else 4) > 1 then (if (ns.length : Int) < 4 then (ns.length : Int) else 4) else 1) = (M : Int) ∧ 1 ≤ M ∧ M ≤ 4 := by
    by_cases h1 : (ns.length : Int) < 4
    · rw [if_pos h1]
      by_cases h2 : (ns.length : Int) > 1
      · rw [if_pos h2]; exact ⟨ns.length, rfl, by omega, by omega⟩
      · rw [if_neg h2]; exact ⟨1, rfl, by omega, by omega⟩
    · rw [if_neg h1]; exact ⟨4, rfl, by omega, by omega⟩
  rw [hM]
  refine w_rg1 (by omega) (by omega) ?_
  rw [show ((M : Int)).toNat = M from Int.toNat_natCast _]
  refine for_range (fun i σ H' => Same H H' ∧ ∃ (v1 v2 v3 v4 : Option V), σ = [some (.ref a), v1, v2, v3, v4]) ⟨Same.refl' _, _, _, _, _, rfl⟩ ?_ ?_
  · rintro i σ G hi ⟨s, v1, v2, v3, v4, rfl⟩
    have hi : i < M := hi
    dsimp only [gName]
    walk_at "v"
    rw [show (0 : Int) + (i : Int) = (i : Int) by omega]
    refine ⟨_, _, rfl, a, ns, i, rfl, rfl, hS.sm s, hn, by omega, fun p G1 hp1 s1 P1 => ?_⟩
    walk_at "v"
    refine ⟨_, rfl, p, rfl, P1, fun pw G2 hw2 W2 P2 k2 => ?_⟩
    walk_at "v"
    have hpw : pw ≠ p := W2.ne P2
    refine ⟨_, _, rfl, p, pw, rfl, rfl, P2, W2, fun q G3 hq3 L3 P3 k3 => ?_⟩
    walk_at "v"
    have B3 : Bn p pw q G3 G3 := ⟨W2.kb P2 k3 hpw, L3, P3, Kb.refl _ _⟩
    refine ⟨_, _, _, rfl, p, pw, q, rfl, rfl, rfl, B3, fun G4 P4 k4 => ?_⟩
    walk_at "v"
    have B4 : Bn p pw q G4 G4 := ⟨(B3.kb P4 k4).1, (B3.kb P4 k4).2.1, P4, Kb.refl _ _⟩
    refine ⟨_, _, _, rfl, p, pw, q, rfl, rfl, rfl, B4, fun G5 P5 k5 => ?_⟩
    walk_at "v"
    exact ⟨Same.kb (s.tr s1) (s.fresh hp1) (((k2.tr k3).tr k4).tr k5), _, _, _, _, rfl⟩
  · rintro σ G ⟨s, v1, v2, v3, v4, rfl⟩
    walk_at "v"
    exact hQ G
end
end K02

namespace K02
open PySem PySem.Spec PyProof.Rows L2 SX
local macro_rules | `(tactic| walk_at "w1") => `(tactic| (first
  | with_reducible refine w_seq ?_ | with_reducible refine w_asgN ?_ | with_reducible refine w_c ?_
  | ((with_reducible refine' w_var ?wv ?_); (case wv => exact rfl))
  | with_reducible refine w_op ?_ | with_reducible refine w_un ?_ | with_reducible refine w_next ?_ | with_reducible refine w_brk ?_ | with_reducible refine w_cnt ?_
  | with_reducible refine w_ifS ?_ | with_reducible refine w_if ?_ | with_reducible refine w_test ?_ | with_reducible refine w_tB ?_ | with_reducible refine w_bl ?_ | with_reducible refine w_blI ?_
  | with_reducible refine w_and ?_ | with_reducible refine w_or ?_ | with_reducible refine w_not ?_ | with_reducible refine w_andV ?_ | with_reducible refine w_orV ?_ | with_reducible refine w_notV ?_
  | with_reducible refine w_nil ?_ | with_reducible refine w_cons ?_ | with_reducible refine w_cb ?_ | with_reducible refine w_call ?_ | with_reducible refine w_callS ?_ | with_reducible refine w_chain ?_
  | with_reducible refine w_tupN ?_ | with_reducible refine w_lstN ?_ | with_reducible refine w_sl ?_ | with_reducible refine w_noPart ?_ | with_reducible refine w_part ?_ | with_reducible refine w_partI ?_
  | with_reducible refine w_ret ?_ | with_reducible refine w_retN ?_ | with_reducible refine w_drop ?_ | with_reducible refine w_asg ?_ | with_reducible refine w_gSub ?_
  | ((with_reducible refine' w_aug ?wv ?_); (case wv => exact rfl)) | with_reducible refine w_ipI ?_
  | with_reducible refine w_addI ?_ | with_reducible refine w_subI ?_ | with_reducible refine w_ltI ?_ | with_reducible refine w_leI ?_ | with_reducible refine w_gtI ?_ | with_reducible refine w_geI ?_
  | with_reducible refine w_eqI ?_ | with_reducible refine w_neI ?_ | with_reducible refine w_eqT ?_ | with_reducible refine w_neT ?_ | with_reducible refine w_inS ?_ | with_reducible refine w_ninS ?_
  | with_reducible refine w_absI ?_ | with_reducible refine w_intI ?_ | with_reducible refine w_maxI ?_ | with_reducible refine w_minI ?_
  | with_reducible refine w_for ?_ | with_reducible refine w_iR1 ?_ | with_reducible refine w_iR2 ?_ | with_reducible refine w_iStr ?_ | with_reducible refine w_strI ?_ | with_reducible refine w_iList ?_ | with_reducible refine w_iTup ?_
  | with_reducible refine w_bm ?_ | with_reducible refine w_bm0 ?_ | with_reducible refine w_t ?_ | with_reducible refine w_f ?_ | with_reducible refine w_nt ?_ | with_reducible refine w_nx ?_ | with_reducible refine w_rt ?_ | with_reducible refine w_bk ?_ | with_reducible refine w_ct ?_ | with_reducible refine w_nf ?_ | with_reducible refine w_lc ?_ | with_reducible refine w_yes ?_ | with_reducible refine w_neg ?_ | with_reducible refine w_intB ?_ | with_reducible refine w_fld ?_ | with_reducible refine w_setf ?_ | with_reducible refine w_faug ?_ | with_reducible refine w_meth ?_ | with_reducible refine w_bmS ?_ | with_reducible refine w_start ?_ | with_reducible refine w_revL ?_ | with_reducible refine w_iR3 ?_))
local macro_rules | `(tactic| walk_at "w") => `(tactic| (repeat (first | walk_at "w1" | dsimp (config := { proj := false }) only [List.set_cons_zero, List.set_cons_succ])))
section
variable {w : World} {K : PySem.W.Frag} {mg : Str → Option Value} {base : Heap}
end
theorem facts {w : World} {K : PySem.W.Frag} {h : Heap} {mg : Str → Option Value} {f : Addr} (X : K.In h) (G : h.Ns mainGlobals mg) (hfa : mg ("law" : Str) = some (.ref f)) (c : HallHt.SaysH fa fn hs ex ts w K) :
    ∃ fd : FuncData, (∀ (s : Shared) (v : Value), BindsTo s fd ⟨[v], []⟩ [("script", v)]) ∧ ∀ base : Heap, K.In base → base.Ns mainGlobals mg → FnG P w K mg base CX0 58 f fd ["script"] (sp_law K) := by
  have T := txt_of X G c
  obtain ⟨fd_law_pot, F_law_pot⟩ := c.d.def_ 9 (d := dd "_law_pot" 25) rfl
  have m_law_pot := He.glo_ok X G (c.d.fact 9 (f := .glo "_law_pot") rfl)
  obtain ⟨fd_law_take, F_law_take⟩ := c.d.def_ 10 (d := dd "_law_take" 26) rfl
  have m_law_take := He.glo_ok X G (c.d.fact 10 (f := .glo "_law_take") rfl)
  obtain ⟨fd_law_mended, F_law_mended⟩ := c.d.def_ 11 (d := dd "_law_mended" 27) rfl
  have m_law_mended := He.glo_ok X G (c.d.fact 11 (f := .glo "_law_mended") rfl)
  obtain ⟨fd_law_name, F_law_name⟩ := c.d.def_ 12 (d := dd "_law_name" 28) rfl
  have m_law_name := He.glo_ok X G (c.d.fact 12 (f := .glo "_law_name") rfl)
  obtain ⟨fd_law_near, F_law_near⟩ := c.d.def_ 13 (d := dd "_law_near" 29) rfl
  have m_law_near := He.glo_ok X G (c.d.fact 13 (f := .glo "_law_near") rfl)
  obtain ⟨fd_law_words, F_law_words⟩ := c.d.def_ 14 (d := dd "_law_words" 30) rfl
  have m_law_words := He.glo_ok X G (c.d.fact 14 (f := .glo "_law_words") rfl)
  obtain ⟨fd_law_pool, F_law_pool⟩ := c.d.def_ 16 (d := dd "_law_pool" 32) rfl
  have m_law_pool := He.glo_ok X G (c.d.fact 16 (f := .glo "_law_pool") rfl)
  obtain ⟨fd_law_wide, F_law_wide⟩ := c.d.def_ 33 (d := dd "_law_wide" 49) rfl
  have m_law_wide := He.glo_ok X G (c.d.fact 33 (f := .glo "_law_wide") rfl)
  obtain ⟨fd_law_deep, F_law_deep⟩ := c.d.def_ 34 (d := dd "_law_deep" 50) rfl
  have m_law_deep := He.glo_ok X G (c.d.fact 34 (f := .glo "_law_deep") rfl)
  obtain ⟨fd_law_built, F_law_built⟩ := c.d.def_ 19 (d := dd "_law_built" 35) rfl
  have m_law_built := He.glo_ok X G (c.d.fact 19 (f := .glo "_law_built") rfl)
  obtain ⟨fd_law_depth, F_law_depth⟩ := c.d.def_ 20 (d := dd "_law_depth" 36) rfl
  have m_law_depth := He.glo_ok X G (c.d.fact 20 (f := .glo "_law_depth") rfl)
  obtain ⟨fd_law_same, F_law_same⟩ := c.d.def_ 15 (d := dd "_law_same" 31) rfl
  have m_law_same := He.glo_ok X G (c.d.fact 15 (f := .glo "_law_same") rfl)
  obtain ⟨fd_measure, F_measure⟩ := c.d.def_ 3 (d := dd "measure" 18) rfl
  have m_measure := He.glo_ok X G (c.d.fact 3 (f := .glo "measure") rfl)
  obtain ⟨fd_law_arounds, F_law_arounds⟩ := c.d.def_ 21 (d := dd "_law_arounds" 37) rfl
  have m_law_arounds := He.glo_ok X G (c.d.fact 21 (f := .glo "_law_arounds") rfl)
  obtain ⟨fd_law_typed, F_law_typed⟩ := c.d.def_ 22 (d := dd "_law_typed" 38) rfl
  have m_law_typed := He.glo_ok X G (c.d.fact 22 (f := .glo "_law_typed") rfl)
  obtain ⟨fd_is_name, F_is_name⟩ := c.d.def_ 0 (d := dd "is_name" 11) rfl
  have m_is_name := He.glo_ok X G (c.d.fact 0 (f := .glo "is_name") rfl)
  obtain ⟨fd_kind_parts, F_kind_parts⟩ := c.d.def_ 1 (d := dd "_kind_parts" 12) rfl
  have m_kind_parts := He.glo_ok X G (c.d.fact 1 (f := .glo "_kind_parts") rfl)
  obtain ⟨fd_kind_ok, F_kind_ok⟩ := c.d.def_ 2 (d := dd "kind_ok" 13) rfl
  have m_kind_ok := He.glo_ok X G (c.d.fact 2 (f := .glo "kind_ok") rfl)
  obtain ⟨fd_form_ok, F_form_ok⟩ := c.d.def_ 4 (d := dd "_form_ok" 19) rfl
  have m_form_ok := He.glo_ok X G (c.d.fact 4 (f := .glo "_form_ok") rfl)
  obtain ⟨fd_made_well, F_made_well⟩ := c.d.def_ 5 (d := dd "_made_well" 20) rfl
  have m_made_well := He.glo_ok X G (c.d.fact 5 (f := .glo "_made_well") rfl)
  obtain ⟨fd_well_formed, F_well_formed⟩ := c.d.def_ 7 (d := dd "well_formed" 22) rfl
  have m_well_formed := He.glo_ok X G (c.d.fact 7 (f := .glo "well_formed") rfl)
  obtain ⟨fd_kind_of, F_kind_of⟩ := c.d.def_ 8 (d := dd "kind_of" 23) rfl
  have m_kind_of := He.glo_ok X G (c.d.fact 8 (f := .glo "kind_of") rfl)
  obtain ⟨fd_law_told, F_law_told⟩ := c.d.def_ 23 (d := dd "_law_told" 39) rfl
  have m_law_told := He.glo_ok X G (c.d.fact 23 (f := .glo "_law_told") rfl)
  obtain ⟨fd_law_ask, F_law_ask⟩ := c.d.def_ 24 (d := dd "_law_ask" 40) rfl
  have m_law_ask := He.glo_ok X G (c.d.fact 24 (f := .glo "_law_ask") rfl)
  obtain ⟨fd_law_tip, F_law_tip⟩ := c.d.def_ 17 (d := dd "_law_tip" 33) rfl
  have m_law_tip := He.glo_ok X G (c.d.fact 17 (f := .glo "_law_tip") rfl)
  obtain ⟨fd_law_grown, F_law_grown⟩ := c.d.def_ 18 (d := dd "_law_grown" 34) rfl
  have m_law_grown := He.glo_ok X G (c.d.fact 18 (f := .glo "_law_grown") rfl)
  obtain ⟨fd_law_ask_logical, F_law_ask_logical⟩ := c.d.def_ 35 (d := dd "_law_ask_logical" 51) rfl
  have m_law_ask_logical := He.glo_ok X G (c.d.fact 35 (f := .glo "_law_ask_logical") rfl)
  obtain ⟨fd_law_spots, F_law_spots⟩ := c.d.def_ 29 (d := dd "_law_spots" 45) rfl
  have m_law_spots := He.glo_ok X G (c.d.fact 29 (f := .glo "_law_spots") rfl)
  obtain ⟨fd_law_changed, F_law_changed⟩ := c.d.def_ 30 (d := dd "_law_changed" 46) rfl
  have m_law_changed := He.glo_ok X G (c.d.fact 30 (f := .glo "_law_changed") rfl)
  obtain ⟨fd_law_with_kind, F_law_with_kind⟩ := c.d.def_ 31 (d := dd "_law_with_kind" 47) rfl
  have m_law_with_kind := He.glo_ok X G (c.d.fact 31 (f := .glo "_law_with_kind") rfl)
  obtain ⟨fd_law_odd, F_law_odd⟩ := c.d.def_ 27 (d := dd "_law_odd" 43) rfl
  have m_law_odd := He.glo_ok X G (c.d.fact 27 (f := .glo "_law_odd") rfl)
  obtain ⟨fd_law_odd_name, F_law_odd_name⟩ := c.d.def_ 28 (d := dd "_law_odd_name" 44) rfl
  have m_law_odd_name := He.glo_ok X G (c.d.fact 28 (f := .glo "_law_odd_name") rfl)
  obtain ⟨fd_law_odd_kind, F_law_odd_kind⟩ := c.d.def_ 26 (d := dd "_law_odd_kind" 42) rfl
  have m_law_odd_kind := He.glo_ok X G (c.d.fact 26 (f := .glo "_law_odd_kind") rfl)
  obtain ⟨fd_law_long, F_law_long⟩ := c.d.def_ 25 (d := dd "_law_long" 41) rfl
  have m_law_long := He.glo_ok X G (c.d.fact 25 (f := .glo "_law_long") rfl)
  obtain ⟨fd_law_ask_general, F_law_ask_general⟩ := c.d.def_ 32 (d := dd "_law_ask_general" 48) rfl
  have m_law_ask_general := He.glo_ok X G (c.d.fact 32 (f := .glo "_law_ask_general") rfl)
  obtain ⟨fd_law_round, F_law_round⟩ := c.d.def_ 36 (d := dd "_law_round" 52) rfl
  have m_law_round := He.glo_ok X G (c.d.fact 36 (f := .glo "_law_round") rfl)
  obtain ⟨fd_fitting_kind, F_fitting_kind⟩ := c.d.def_ 6 (d := dd "_fitting_kind" 21) rfl
  have m_fitting_kind := He.glo_ok X G (c.d.fact 6 (f := .glo "_fitting_kind") rfl)
  obtain ⟨fd_law, F_law⟩ := c.d.def_ 37 (d := dd "law" 53) rfl
  have m_law := He.glo_ok X G (c.d.fact 37 (f := .glo "law") rfl)
  have e := hfa.symm.trans m_law
  cases e
  have b := FunD.bindsA (ps := ["script"]) F_law fun _ _ _ _ _ _ us hl => match us, hl with | [_], _ => rfl
  refine ⟨fd_law, fun s v => b s [v] rfl, fun base _ _ => ?_⟩
  have H_c_law_pot := ok_law_pot (w := w) (base := base) T F_law_pot m_law_pot 
  have H_c_law_take := ok_law_take (w := w) (base := base) T F_law_take m_law_take 
  have H_c_law_mended := ok_law_mended (w := w) (base := base) T F_law_mended m_law_mended 
  have H_c_law_name := ok_law_name (w := w) (base := base) T F_law_name m_law_name H_c_law_take H_c_law_mended
  have H_c_law_near := ok_law_near (w := w) (base := base) T F_law_near m_law_near H_c_law_take H_c_law_mended
  have H_c_law_words := ok_law_words (w := w) (base := base) T F_law_words m_law_words H_c_law_name H_c_law_near
  have H_c_law_pool := ok_law_pool (w := w) (base := base) T F_law_pool m_law_pool H_c_law_take
  have H_c_law_wide := ok_law_wide (w := w) (base := base) T F_law_wide m_law_wide H_c_law_take
  have H_c_law_deep := ok_law_deep (w := w) (base := base) T F_law_deep m_law_deep H_c_law_take
  have H_c_law_built := ok_law_built (w := w) (base := base) T F_law_built m_law_built 
  have H_c_law_depth := ok_law_depth (w := w) (base := base) T F_law_depth m_law_depth 
  have H_c_law_same := ok_law_same (w := w) (base := base) T F_law_same m_law_same 
  have H_c_measure := ok_measure (w := w) (base := base) T F_measure m_measure 
  have H_c_law_arounds := ok_law_arounds (w := w) (base := base) T F_law_arounds m_law_arounds 
  have H_c_law_typed := ok_law_typed (w := w) (base := base) T F_law_typed m_law_typed H_c_law_arounds
  have H_c_is_name := ok_is_name (w := w) (base := base) T F_is_name m_is_name 
  have H_c_kind_parts := ok_kind_parts (w := w) (base := base) T F_kind_parts m_kind_parts H_c_is_name
  have H_c_kind_ok := ok_kind_ok (w := w) (base := base) T F_kind_ok m_kind_ok H_c_kind_parts
  have H_c_form_ok := ok_form_ok (w := w) (base := base) T F_form_ok m_form_ok H_c_is_name H_c_kind_ok
  have H_c_made_well := ok_made_well (w := w) (base := base) T F_made_well m_made_well H_c_form_ok
  have H_c_fitting_kind := fit_all (w := w) (base := base) T F_fitting_kind m_fitting_kind 50
  have H_c_well_formed := ok_well_formed (w := w) (base := base) T F_well_formed m_well_formed H_c_made_well H_c_fitting_kind
  have H_c_kind_of := ok_kind_of (w := w) (base := base) T F_kind_of m_kind_of H_c_well_formed
  have H_c_law_told := ok_law_told (w := w) (base := base) T F_law_told m_law_told H_c_kind_of
  have H_c_law_ask := ok_law_ask (w := w) (base := base) T F_law_ask m_law_ask H_c_law_built H_c_law_depth H_c_law_same H_c_measure H_c_law_typed H_c_law_told
  have H_c_law_tip := ok_law_tip (w := w) (base := base) T F_law_tip m_law_tip H_c_law_take
  have H_c_law_grown := ok_law_grown (w := w) (base := base) T F_law_grown m_law_grown H_c_law_take H_c_law_tip
  have H_c_law_ask_logical := ok_law_ask_logical (w := w) (base := base) T F_law_ask_logical m_law_ask_logical H_c_law_take H_c_law_grown H_c_law_ask
  have H_c_law_spots := ok_law_spots (w := w) (base := base) T F_law_spots m_law_spots 
  have H_c_law_changed := ok_law_changed (w := w) (base := base) T F_law_changed m_law_changed 
  have H_c_law_with_kind := ok_law_with_kind (w := w) (base := base) T F_law_with_kind m_law_with_kind 
  have H_c_law_odd := ok_law_odd (w := w) (base := base) T F_law_odd m_law_odd H_c_law_take
  have H_c_law_odd_name := ok_law_odd_name (w := w) (base := base) T F_law_odd_name m_law_odd_name H_c_law_take
  have H_c_law_odd_kind := ok_law_odd_kind (w := w) (base := base) T F_law_odd_kind m_law_odd_kind H_c_law_take
  have H_c_law_long := ok_law_long (w := w) (base := base) T F_law_long m_law_long H_c_law_take
  have H_c_law_ask_general := ok_law_ask_general (w := w) (base := base) T F_law_ask_general m_law_ask_general H_c_law_take H_c_law_grown H_c_law_ask H_c_law_spots H_c_law_changed H_c_law_with_kind H_c_law_odd H_c_law_odd_name H_c_law_odd_kind H_c_law_long
  have H_c_law_round := ok_law_round (w := w) (base := base) T F_law_round m_law_round H_c_law_take H_c_law_wide H_c_law_deep H_c_law_ask H_c_law_ask_logical H_c_law_ask_general
  exact law_ok T F_law H_c_law_pot H_c_law_words H_c_law_pool H_c_law_round
end K02
open PySem PySem.W PySem.Calls PyProof.Rows
theorem PySem.Challenge.cw_lemmahall_k02_well_formed_holds : PySem.Challenge.rw_lemmahall_k02_well_formed.Holds := by
  w_on; o_law
  refine HandSHeadRun.head_any (r := OpenLaw.row PySem.Challenge.rw_lemmahall_k02_well_formed) (q := view (OpenLaw.row PySem.Challenge.rw_lemmahall_k02_well_formed).prog [53]) (H := K02.hk) (ob := K02.ob) (M := 3000) (loose := K02.loose) (d := HandSHeadRun.topDef (OpenLaw.row PySem.Challenge.rw_lemmahall_k02_well_formed).prog 53) (kwd := []) K02.ob_eq
    (by kernel_rfl) (fun s => by kernel_rfl) K02.run (by kernel_rfl) (by kernel_rfl) (by kernel_rfl) (by rfl) (by first | assumption | decide +kernel) (by decide +kernel) ⟨rfl, rfl, rfl, rfl, rfl, by decide +kernel⟩ ?hw ?hc
  case hw => w_witness2
  case hc =>
    refine L2.walk_ofG (l := PySem.Challenge.rw_lemmahall_k02_well_formed) (n := 63) (k := 58) (x := "script") (CX := L2.CX0) rfl (by decide) (by kernel_rfl) ⟨rfl, by decide, by decide⟩ ?F (fun _ _ _ _ z => z)
    intro w mg fa h Y G hmg0
    obtain ⟨K, KX, c⟩ := Y
    have hmg : mg ("law" : PySem.Str) = some (.ref fa) := by
      have e : (HandSHeadRun.topDef (OpenLaw.row PySem.Challenge.rw_lemmahall_k02_well_formed).prog 53).name = ("law" : PySem.Str) := by kernel_rfl
      rw [← e]
      exact hmg0
    obtain ⟨fd, hb, hF⟩ := K02.facts (w := w) KX G hmg c
    exact ⟨K, fd, K02.sp_law K, KX, hb, fun H a ns hl _ hS => ⟨L2.V.ref a, rfl, a, ns, rfl, hS, hl, fun _ => rfl⟩, hF⟩
