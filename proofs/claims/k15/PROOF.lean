import PyProof.Rows.All
import Wide.All
import OpenK.AllK
import Wide.FinOn
import KE.KStateDown
import KE.KExcSuper
import KE.KExcIs
import Lean
import HandS.ForMost
import HandS.ForExc
import HandS.ExcSuper
import HandS.ExcField
import HandS.ExcIs
import HandS.Defaults
import HandS.HeadHook3
import HandS.HeadEnd
import HandS.Head2
import HandS.WideBits
import HandS.Wide
import HandS.Evl
import HandS.CallSlots
import HandS.IsInst
import HandS.Codes
import HandS.SortInts
import HandS.Flow
import HandS.More
import HandS.Star
import HandS.ClsMeth
import KE.GoesEnum
import HandS.Walk
import PySem.Challenge.RW_rungbounds_k15_misread_and_pinned
set_option Elab.async false
set_option linter.all false
set_option maxRecDepth 100000
set_option maxHeartbeats 8000000
set_option exponentiation.threshold 10000
namespace PySem
namespace ErrX
open PySem.W PySem.Calls PyProof.Rows PySem.HandSPX
/-! ### the text of an error's __init__: super().__init__(msg); self.f = x -/
def iA (x : Str) (p1 p2 : Pos) : Arguments := { posonlyargs := [], args := [{ arg := "self", annotation := none, pos := p1 }, { arg := x, annotation := none, pos := p2 }], vararg := none, kwonlyargs := [], kw_defaults := [], kwarg := none, defaults := [] }
def iB (x f msg : Str) (q1 q2 q3 q4 q5 q6 q7 q8 q9 q10 : Pos) : List Stmt :=
  [.Expr (.Call (.Attribute (.Call (.Name "super" q1) [] [] q2) "__init__" q3) [.Constant (.str msg) 0 q4] [] q5) q6,
   .Assign [.Attribute (.Name "self" q7) f q8] (.Name x q9) q10]
def iS (x : Str) : Scope := { kind := .function, names := [(PySem.Str.ofString "self", .local), (x, .local), (PySem.Str.ofString "__class__", .free), (PySem.Str.ofString "super", .globalImplicit)], isGenerator := false, isCoroutine := false, more := [] }
/-- what the written part says of the error class at C and of its __init__ at fI; x the parameter, f the field -/
structure ErrTxt (P : Program) (K : Frag) (C : Addr) (x f : Str) : Prop where
  cls : ∃ nm q N bs bm sn sub ab col dd k0 k1 k2 k3 k5, K.lookup C = some (excClassObj nm q C N bs bm true sn sub ab col dd k0 k1 k2 k3 k5 "ValueError.__new__") ∧ refsVE bm = true
  along : ∃ cd, clsIn K C = some cd ∧ alongIn K "__init__" ((cd.mro.dropWhile (· != .ref C)).drop 1) = some (some (.builtin "ValueError.__init__"))
  opq : nsIn K cStatics "thirdparty.any" = some none
  selfC : mroIn K C (.ref C) = some true
  ve : subIn K (.ref C) (.type "ValueError") = some true
  sa : findIn K (.ref C) "__setattr__" = some (some (.builtin "object.__setattr__"))
  ga : findIn K (.ref C) "__getattribute__" = some (some (.builtin "BaseException.__getattribute__"))
  gg : findIn K (.ref C) "__getattr__" = some none
  noN : findIn K (.ref C) f = some none
  kC : keepIn K (.ref C) = true
  exC : subIn K (.ref C) (.type "BaseException") = some true
  tyC : typeIn K (.ref C) = some (.type "type")
  hdC : hasDictIn K C = true
  fn : ∃ fI, findIn K (.ref C) "__init__" = some (some (.ref fI)) ∧ typeIn K (.ref fI) = some (.type "function") ∧
    ∃ (oc : Value) (od : Option Addr) (doc pm kV : Value) (an : Option Addr) (cda cc : Addr) (ct : Value) (osl : Array (Option Value)) (nm qual msg : Str) (p1 p2 q1 q2 q3 q4 q5 q6 q7 q8 q9 q10 : Pos),
      (q3.endLine == q5.line) = true ∧ K.lookup fI = some ⟨oc, od, .func (ksFn nm qual (iA x p1 p2) (iB x f msg q1 q2 q3 q4 q5 q6 q7 q8 q9 q10) (iS x) .none kV doc pm an (.ref cda) ct cc), osl⟩ ∧ codeIn K (.ref cda) qual = true ∧
      (∃ ccl cdd vs ccs file tf, K.lookup cda = some ⟨ccl, cdd, .fields vs, ccs⟩ ∧ vs[2]? = some (.str file tf) ∧ ((P.main.file : Str) == file) = true) ∧
      ∃ cl cld csl, K.lookup cc = some ⟨cl, cld, .cell (some (.ref C)), csl⟩
  top : (P.main.scope.names.lookup ("super" : Str)).isSome = false
  xs : (x == ("self" : Str)) = false
  xc : (("__class__" : Str) == x) = false
  xu : (("super" : Str) == x) = false
  xd : (x == ("__debug__" : Str)) = false
  bnd : ∀ (nm qual : Str) (Bd : List Stmt) (kV doc pm : Value) (an : Option Addr) (cdv ct : Value) (cc : Addr) (p1 p2 : Pos) (u v : Value), bindArgs (ksFn nm qual (iA x p1 p2) Bd (iS x) .none kV doc pm an cdv ct cc) ⟨[u, v], []⟩ = pure [(("self" : Str), u), (x, v)]
theorem one_size (v : Value) : [v].length ≤ sizeLine := by
  rw [sizeLine_eq]
  exact (by decide : 1 ≤ 16777216)
/-- a made error -/
structure Made (h h' : Heap) (e C d : Addr) (f : Str) (v : Value) : Prop where
  keep : ∀ b o, h.get? b = some o → h'.get? b = some o
  new : h.objs.size ≤ e
  obj : ∃ oe vs, h'.get? e = some oe ∧ oe.cls = .ref C ∧ oe.dict = some d ∧ oe.data = .fields vs ∧ vs[1]? = some .none
  dbig : h.objs.size ≤ d
  dne : d ≠ e
  ns : h'.Ns1 d (fun y => if y = f then some v else none)
section
variable {prog : Program} {w : World} {A : Around} {E : Value → Shared → Prop} {h : Heap} {g : Array GenState} {d : Drawn} {t : Nat} {os : OsState}
variable {nm q : Str} {C N : Addr} {bs bm : List Value} {hdct : Bool} {sn : List Str} {sub : List Value} {ab : Bool} {col : Option Bool} {dd : Option Addr} {k0 k1 k2 k3 k5 : Option Value}
/-- the bound ValueError.__init__ called -/
theorem call_bw {u e t0 : Addr} {rest : List Value} {Q : Value → Shared → Prop}
    (hC : h.get? C = some (excClassObj nm q C N bs bm hdct sn sub ab col dd k0 k1 k2 k3 k5 "ValueError.__new__")) (he : h.get? e = some (excO C t0)) (hu : h.get? u = some (kxs_mw "ValueError.__init__" e)) (hrest : rest.length ≤ sizeLine)
    (hq : ∀ h' t1, (∀ b o, b ≠ e → h.get? b = some o → h'.get? b = some o) → h'.get? e = some (excO C t1) → Q .none ⟨h', g, d, t, os⟩) :
    wpAny (model prog w) A (call (.ref u) rest) Q E ⟨h, g, d, t, os⟩ := by
  refine wpAny_call (codeAny_of_tree ?_)
  show wpAny _ A.in1 (callAny (.ref u) ⟨rest, []⟩) _ _ _
  simp only [callAny]
  refine wpAny_bind (wpAny_load hu ?_)
  simp only [kxs_mw, show (Value.type "method-wrapper" == Value.type "method" || Value.type "method-wrapper" == Value.type "builtin_function_or_method" || Value.type "method-wrapper" == Value.type "method-wrapper") = true by decide, if_true]
  refine W.KFB.if_so (by decide) ?_
  refine wpAny_bind (ESX.check_bound F.excBase_ValueError hC he rfl ?_)
  refine wpAny_bind (wpAny_pure (wpAny_pure ?_))
  refine ⟨Code.quiet_builtin _ (by decide +kernel), codeAny_builtin F.excBase_ValueError.initEntry ?_⟩
  rw [Around.under_plainId F.excBase_ValueError.init.plain _]
  wp_walk
  refine hq _ h.objs.size (fun b o hb ho => ?_) ?_
  · rw [Heap.get?_update_other _ _ (Ne.symm hb)]
    exact Heap.get?_push_of_some _ ho
  · rw [Heap.get?_update_self _ (Heap.get?_push_of_some _ he) rfl]
    rfl
end
section
variable {prog : Program} {w : World} {A : Around} {E : Value → Shared → Prop} {R : Result → Shared → Prop} {s : Shared} {K : Frag} {mg mb : Str → Option Value} {C : Addr} {x f : Str}
/-- what __init__ leaves of a fresh exception at e -/
structure InitEnd (h h' : Heap) (e C dx : Addr) (f : Str) (v : Value) : Prop where
  keep : ∀ b o, b ≠ e → h.get? b = some o → h'.get? b = some o
  obj : ∃ t1, h'.get? e = some { cls := .ref C, dict := some dx, data := .fields #[.ref t1, .none, .none, .none, .bool false, .none] }
  dbig : h.objs.size ≤ dx
  dne : dx ≠ e
  ns : h'.Ns1 dx (fun y => if y = f then some v else none)
theorem clsIn_of {nm q : Str} {N : Addr} {bs bm : List Value} {sn : List Str} {sub : List Value} {ab : Bool} {col : Option Bool} {dd : Option Addr} {k0 k1 k2 k3 k5 : Option Value}
    (hC : K.lookup C = some (excClassObj nm q C N bs bm true sn sub ab col dd k0 k1 k2 k3 k5 "ValueError.__new__")) :
    clsIn K C = some { name := nm, bases := bs, mro := .ref C :: bm, ns := N, qualname := q, hasDict := true, slotNames := sn, subclasses := sub, abstract := ab, collection := col, hasDel := false } := by
  unfold clsIn; rw [hC] <;> rfl
theorem mcall_one {o : Expr} {m : Str} {apos pos : Pos} {env : Env} {ov : Value} {n : Nat} {args : List (Bool × Sem Value)} (hf : methodCallForm n args [] = true) (hl : (apos.endLine == pos.line) = true) :
    methodCall o m apos pos env ov n args [] = (do
      let (f, first) ← holding [ov] (getMethod ov m (do return (← importBound o env).getD true))
      callWith pos f first args []) := by
  have e1 : calleeOf (methodCallForm n args []) o env ov m = getMethod ov m (do return (← importBound o env).getD true) := by
    rw [hf] <;> rfl
  have e2 : methodCallPos (methodCallForm n args []) o env apos pos = pure pos := by
    unfold methodCallPos
    exact if_pos (by rw [hl, Bool.or_true])
  unfold methodCall
  rw [e1, e2]
  first
    | rfl
    | simp only [pure_bind]
theorem look_x (T : ErrTxt prog K C x f) : (iS x).names.lookup x = some .local := by
  have e := T.xs
  have e2 : (x == PySem.Str.ofString "self") = false := e
  simp [iS, List.lookup, e2]
theorem look_c (T : ErrTxt prog K C x f) : (iS x).names.lookup ("__class__" : Str) = some .free := by
  have e := T.xc
  have e0 : ((PySem.Str.ofString "__class__") == PySem.Str.ofString "self") = false := by decide +kernel
  have e2 : (PySem.Str.ofString "__class__" == x) = false := e
  show List.lookup (PySem.Str.ofString "__class__") (iS x).names = _
  simp [iS, List.lookup, e2, e0]
theorem look_u (T : ErrTxt prog K C x f) : (iS x).names.lookup ("super" : Str) = some .globalImplicit := by
  have e := T.xu
  have e0 : ((PySem.Str.ofString "super") == PySem.Str.ofString "self") = false := by decide +kernel
  have e1 : ((PySem.Str.ofString "super") == PySem.Str.ofString "__class__") = false := by decide +kernel
  have e2 : (PySem.Str.ofString "super" == x) = false := e
  show List.lookup (PySem.Str.ofString "super") (iS x).names = _
  simp [iS, List.lookup, e2, e0, e1]
theorem look_s : (iS x).names.lookup ("self" : Str) = some .local := by
  show List.lookup (PySem.Str.ofString "self") (iS x).names = _
  simp [iS, List.lookup]
theorem err_init (T : ErrTxt prog K C x f) {e t0 fI : Addr} {v : Value} (hfI : findIn K (.ref C) "__init__" = some (some (.ref fI))) (X : K.In s.heap) (G : s.heap.Ns mainGlobals mg) (Gs : mg "super" = none) (B : s.heap.Ns builtinsNs mb) (Bs : mb "super" = some (.type "super"))
    (hlim : s.heap.NoLimit) (hx : s.heap.get? e = some (excO C t0)) (hnx : K.lookup e = none) (hroom : A.depth < recursionLimit)
    (hq : ∀ h' tk dx, InitEnd s.heap h' e C dx f v → R (.ok (.ret .none)) { s with heap := h', toks := tk }) :
    codeAny (model prog w) A (.call (.ref fI) ⟨[.ref e, v], []⟩) R s := by
  obtain ⟨fI', hfI', hty, oc, od, doc, pm, kV, an, cda, cc, ct, osl, nm0, qual, msg, p1, p2, q1, q2, q3, q4, q5, q6, q7, q8, q9, q10, hln, ho, hcd, ⟨ccl, cdd, cvs, ccs, file, tf, hcode, hvs, hfile⟩, ⟨cl, cld, csl, hcell⟩⟩ := T.fn
  have ef : fI' = fI := by
    have z := hfI'.symm.trans hfI
    simpa using z
  subst ef
  obtain ⟨nm, q, N, bs, bm, sn, sub, ab, col, dd, k0, k1, k2, k3, k5, hC, hbm⟩ := T.cls
  have hcl := clsIn_of hC
  obtain ⟨cd', hcd', hal⟩ := T.along
  have hcdE := hcd'
  rw [hcl] at hcd'
  have hcd'' := (Option.some.inj hcd')
  have hlx := look_x T
  have hlc := look_c T
  have hlu := look_u T
  have hls := look_s (x := x)
  refine ks_codeAny_call_defAt (fd := ksFn nm0 qual (iA x p1 p2) (iB x f msg q1 q2 q3 q4 q5 q6 q7 q8 q9 q10) (iS x) .none kV doc pm an (.ref cda) ct cc) (binds := [("self", .ref e), (x, v)]) hroom (X _ _ ho) rfl hlim (codeRec_of X hcd) rfl
    (BindsTo.of_eq (T.bnd ..)) ?hcell ?hloc (fun h₁ hns hk₁ => ?_) rfl rfl rfl
  case hcell =>
    intro y hy
    have hy' : y ∈ [(PySem.Str.ofString "self", NameKind.local), (x, NameKind.local), (PySem.Str.ofString "__class__", NameKind.free), (PySem.Str.ofString "super", NameKind.globalImplicit)] := hy
    simp only [List.mem_cons, List.not_mem_nil, or_false] at hy'
    rcases hy' with rfl | rfl | rfl | rfl <;> (intro z; cases z)
  case hloc =>
    intro y hy
    simp only [List.mem_cons, List.not_mem_nil, or_false] at hy
    rcases hy with rfl | rfl
    · exact hls
    · exact hlx
  have X₁ : K.In h₁ := X.keeps hk₁
  have hx₁ := hk₁ _ _ hx
  have hmx : (fun y => List.lookup y ([(("self" : Str), Value.ref e), (x, v)] : List (Str × Value)).reverse) x = some v := by simp [List.lookup]
  have hms : (fun y => List.lookup y ([(("self" : Str), Value.ref e), (x, v)] : List (Str × Value)).reverse) ("self" : Str) = some (.ref e) := by
    have e1 : (("self" : Str) == x) = false := by
      rw [Bool.eq_false_iff]
      intro z
      have z2 := (beq_iff_eq.mp z)
      have z3 := T.xs
      rw [← z2] at z3
      simp at z3
    simp [List.lookup, e1]
  obtain ⟨hp, g, dr, tk, os⟩ := s
  have hlc' : (ksEnv qual (iS x) hp.objs.size fI' (.ref cda) cc).kindOf "__class__" = some .free := hlc
  have hlu' : (ksEnv qual (iS x) hp.objs.size fI' (.ref cda) cc).kindOf "super" = some .globalImplicit := hlu
  have hls' : (ksEnv qual (iS x) hp.objs.size fI' (.ref cda) cc).kindOf "self" = some .local := hls
  have hlx' : (ksEnv qual (iS x) hp.objs.size fI' (.ref cda) cc).kindOf x = some .local := hlx
  obtain ⟨oD, hD1, hD2⟩ : ∃ oD, h₁.get? C = some oD ∧ ∃ cdc, oD.data = .cls cdc := ⟨_, X₁ _ _ hC, _, rfl⟩
  obtain ⟨cdc, hD2⟩ := hD2
  have I1 : InstAt h₁ e (excO C t0) C none := ⟨hx₁, rfl, rfl, trivial⟩
  show wpAt _ _ _ (execs (iB x f msg q1 q2 q3 q4 q5 q6 q7 q8 q9 q10) (ksEnv qual (iS x) hp.objs.size fI' (.ref cda) cc)) _ _ _
  refine ks_wpAt_execs_cons (ks_wpAt_Expr_any (ks_wpAt_MethodCall (pl := (do return (← importBound (.Call (.Name "super" q1) [] [] q2) (ksEnv qual (iS x) hp.objs.size fI' (.ref cda) cc)).getD true)) ?_ ?he))
  case he =>
    rw [arm_eval_Call]
    refine congrArg _ (funext fun ov => ?_)
    refine congrArg _ (funext fun _ => ?_)
    exact mcall_one rfl hln
  refine ks_wpAt_super_base (env := ksEnv qual (iS x) hp.objs.size fI' (.ref cda) cc) hlu' hlc' (by decide +kernel) rfl (X₁ _ _ ho) rfl rfl rfl (X₁ _ _ hcode) rfl hvs hfile T.top ?_
  refine ks_loadName_global rfl hlu' (loadGlobal_builtin (env := ksEnv qual (iS x) hp.objs.size fI' (.ref cda) cc) (G.keeps hk₁) Gs (B.keeps hk₁) Bs ⟨rfl, ?_⟩)
  refine wpAny_loadName_free rfl hlc' rfl ⟨_, X₁ _ _ hcell, rfl⟩ ?_
  refine wpAny_loadName_local rfl hls' hns hms ?_
  refine ks_wpAny_isType_cls hD1 hD2 ⟨rfl, ?_⟩
  refine ks_wpAny_call_super hD1 hD2 hx₁ rfl (fun c z => by cases z) (looks_mroIn X₁ T.selfC) (fun h₂ e₂ k₂ => ?_)
  have X₂ : K.In h₂ := X₁.keeps k₂
  have hx₂ := k₂ _ _ hx₁
  have I2 : InstAt h₂ e (excO C t0) C none := ⟨hx₂, rfl, rfl, trivial⟩
  have hI2 : Looks (model prog w) h₂ (isInstance (.ref e) (.type "ValueError")) true := I2.type.andThen (looks_subIn X₂ T.ve)
  refine kxs_getMethod kxs_ValueError e₂ (looks_opaque X₂ T.opq) (l₀ := cd'.mro) (fun A Q E s k q => wpAny_bind ((looks_clsIn X₂ hcdE) A _ E s k (wpAny_pure q))) rfl X₂ hal hI2 (ks_ne X₂ I2 hcdE) (by decide +kernel) ?_
  have hu₃ : (h₂.push (kxs_mw "ValueError.__init__" e)).get? h₂.objs.size = some (kxs_mw "ValueError.__init__" e) := Heap.get?_push_at rfl rfl
  have k₃ : ∀ b o, h₂.get? b = some o → (h₂.push (kxs_mw "ValueError.__init__" e)).get? b = some o := fun b o z => Heap.get?_push_of_some _ z
  refine kxs_callWith (i := "ValueError.__init__") (x := e) rfl ?_
  refine evalArgs_plain (PyProof.Rows.spliced_more (Constant_str (PyProof.Rows.spliced_none ?_)))
  refine ⟨hu₃, ?_⟩
  show wpAny _ _ (call (.ref h₂.objs.size) [_]) _ _ _
  refine call_bw (nm := nm) (q := q) (N := N) (bs := bs) (bm := bm) (hdct := true) (sn := sn) (sub := sub) (ab := ab) (col := col) (dd := dd) (k0 := k0) (k1 := k1) (k2 := k2) (k3 := k3) (k5 := k5) (X₂.keeps k₃ _ _ hC) (k₃ _ _ hx₂) hu₃ (one_size _) (fun h₄ t1 k₄ hx₄ => ?_)
  have hk14 : ∀ b o, b ≠ e → h₁.get? b = some o → h₄.get? b = some o := fun b o hb z => k₄ b o hb (k₃ b o (k₂ b o z))
  have hLe : hp.objs.size ≠ e := Nat.ne_of_gt (Heap.lt_size hx)
  have hns₄ : h₄.Ns hp.objs.size (fun y => List.lookup y ([(("self" : Str), Value.ref e), (x, v)] : List (Str × Value)).reverse) := by
    obtain ⟨o, es, ep, ho1, r⟩ := hns
    exact ⟨o, es, ep, hk14 _ _ hLe ho1, r⟩
  have X₄ : K.In h₄ := fun a o z => hk14 a o (fun y => by rw [y, hnx] at z; cases z) (X₁ a o z)
  refine ks_wpAt_execs_cons (ks_wpAt_Assign_Attr (wpAt_of_wpAny (ESX.ldL (env := ksEnv qual (iS x) hp.objs.size fI' (.ref cda) cc) hns₄ hmx (ESX.ldL (env := ksEnv qual (iS x) hp.objs.size fI' (.ref cda) cc) hns₄ hms ?_ rfl hls' (by decide)) rfl hlx' T.xd)))
  refine set_plain X₄ (ox := excO C t1) (od := none) ⟨hx₄, rfl, rfl, trivial⟩ T.sa ?_
  refine exc_osa X₄ hx₄ hcl (show refsVE (.ref C :: bm) = true from hbm) rfl T.noN (fun h₅ tk₅ dx k₅ dn dne hx₅ hn₅ => ?_)
  refine wpAt_of_wpAny (wpAny_execs_nil (hq h₅ tk₅ dx ⟨fun b o hb z => k₅ b o hb (hk14 b o hb (hk₁ b o z)), ⟨t1, hx₅⟩, ?_, dne, hn₅⟩))
  refine Nat.le_trans ?_ dn
  obtain ⟨o, es, ep, ho1, r⟩ := hns₄
  exact Nat.le_of_lt (Heap.lt_size ho1)
theorem err_made (T : ErrTxt prog K C x f) {v : Value} (X : K.In s.heap) (G : s.heap.Ns mainGlobals mg) (Gs : mg "super" = none) (B : s.heap.Ns builtinsNs mb) (Bs : mb "super" = some (.type "super")) (hlim : s.heap.NoLimit) (hroom : A.depth + 1 < recursionLimit)
    (hq : ∀ h' tk e d, Made s.heap h' e C d f v → R (.ok (.ret (.ref e))) { s with heap := h', toks := tk }) :
    codeAny (model prog w) A (.call (.ref C) ⟨[v], []⟩) R s := by
  obtain ⟨nm, q, N, bs, bm, sn, sub, ab, col, dd, k0, k1, k2, k3, k5, hC, hbm⟩ := T.cls
  obtain ⟨fI, iC, tC, _⟩ := id T.fn
  obtain ⟨hp, g, dr, tk, os⟩ := s
  have k : ∀ b o, hp.get? b = some o → ((hp.push (kdv_tup [v])).push (excO C hp.objs.size)).get? b = some o := fun b o e => Heap.get?_push_of_some _ (Heap.get?_push_of_some _ e)
  have hget : ((hp.push (kdv_tup [v])).push (excO C hp.objs.size)).get? (hp.objs.size + 1) = some (excO C hp.objs.size) := by heap_get
  have hnx : K.lookup (hp.objs.size + 1) = none := by
    cases e : K.lookup (hp.objs.size + 1) with
    | none => rfl
    | some o =>
      have z : hp.get? (hp.objs.size + 1) = some o := X _ _ e
      exact absurd (Nat.lt_of_succ_lt (Heap.lt_size z)) (Nat.lt_irrefl _)
  refine call_own F.excBase_ValueError (fun X => refsVE_contains X bm hbm) (X _ _ hC) (looks_findIn X iC) (fun self => bind_fn X self tC) (one_size v) ?_
  refine err_init (s := ⟨(hp.push (kdv_tup [v])).push (excO C hp.objs.size), g, dr, tk, os⟩) T iC (X.keeps k) (G.keeps k) Gs (B.keeps k) Bs (hlim.keeps k) hget hnx ?_ fun h' tk' dx ⟨k', ⟨t1, hx⟩, dn, dne, hns⟩ => ?_
  · show A.depth + 1 < recursionLimit
    exact hroom
  · have old : ∀ b o, hp.get? b = some o → h'.get? b = some o := fun b o e => k' b o (Nat.ne_of_lt (Nat.lt_succ_of_lt (Heap.lt_size e))) (k b o e)
    have z : hp.objs.size + 1 + 1 ≤ dx := by
      first
        | (simpa only [Heap.size_push] using dn)
        | exact dn
        | (have q := dn; rw [Heap.size_push, Heap.size_push] at q; exact q)
    exact ⟨rfl, hq h' tk' (hp.objs.size + 1) dx ⟨old, Nat.le_succ _, ⟨_, _, hx, rfl, rfl, rfl, rfl⟩, Nat.le_trans (Nat.le_trans (Nat.le_succ _) (Nat.le_succ _)) z, dne, hns⟩⟩
end
end ErrX
end PySem
namespace L2
open PySem PySem.Spec PyProof.Rows
/-! ### raise Err(e), err.f, isinstance(err, C) over the layer -/
theorem relO_one {v : V} {v' : Value} (r : RelV v v') (x f : Str) : RelO (List.lookup f [(x, v)]) (if f = x then some v' else none) := by
  by_cases hw : f = x
  · subst hw
    rw [if_pos rfl]
    have q : List.lookup f [(f, v)] = some v := by simp [List.lookup]
    rw [q]
    exact r
  · rw [if_neg hw]
    have qw : (f == x) = false := by simpa using hw
    have q2 : List.lookup f [(x, v)] = none := by simp [List.lookup, qw]
    rw [q2]
    trivial
/-- Err(e): its class C, its one field f -/
def tMkErr (C : Addr) (f : Str) (ta : TA) : St → Hp → XK → Prop := fun σ H Q => ta σ H fun vs H1 => ∃ v, vs = [v] ∧ ∀ d, H1 d = none → Q (.ref C) (some d) (upd H1 d (.xd [(f, v)]))
section
variable {X : Cx} {C : Addr} {x f nm : Str}
theorem pmk_err {a : Expr} {ta : TA} {p pos : Pos} {k : Nat} (T : PySem.ErrX.ErrTxt X.prog X.K C x f) (hm : X.mg nm = some (.ref C)) (hsu : X.mg "super" = none) (hr : Room k X.A) (ha : PA X [a] ta) (hg : Gl X nm := by rfl) (hdb : (nm == ("__debug__" : Str)) = false := by decide)
    (he : starEach (a :: []) X.env = (false, eval a X.env) :: starEach [] X.env := by rfl) (hpl : (backTo pos (starEach [] X.env)).any (·.1) = false := by rfl) :
    PMk X (.Call (.Name nm p) [a] [] pos) (tMkErr C f ta) := by
  intro pins s σ H Q I h
  refine wpAny_Call_Name_kw (ld_glob I hg hm ?_ hdb)
  refine PySem.W.callWith_K (h₀ := X.base) I.ok.mod.kin T.kC (thn (ha.run pos pins s σ H _ I h) fun us s1 hh => ?_) he hpl
  obtain ⟨vs, H1, I1, r1, v, ev, q1⟩ := hh
  subst ev
  refine ⟨I1.kIn, ?_⟩
  cases r1 with
  | cons rv rn =>
    rename_i v' us'
    cases rn
    show wpAny _ _ (call (.ref C) [v']) _ _ _
    have hlim := I1.nolimit
    have hG := I1.mod.glob.keeps I1.bk
    obtain ⟨mb, hb1, hb2⟩ := I1.mod.blt
    have hB := hb1.keeps I1.bk
    obtain ⟨hp, g, dr, tk, os⟩ := s1
    refine wpAny_call (PySem.ErrX.err_made T I1.kIn hG hsu hB ((hb2 "super" (by decide)).trans (by decide +kernel)) hlim (by have := hr.dp; omega) fun h' tk' e d M => ?_)
    show MkP X pins σ Q (.ref e) ⟨h', g, dr, tk', os⟩
    obtain ⟨oe, fv, hoe, hc, hd, hdat, h1⟩ := M.obj
    have hns := M.ns
    obtain ⟨G', g1, g2⟩ := restrict h' fun b => decide (b ≠ e)
    have gk : ∀ b, b ≠ e → G'.get? b = h'.get? b := fun b hb => g1 b (decide_eq_true hb)
    have ge : G'.get? e = none := g2 e (by simp)
    have old : ∀ b o, hp.get? b = some o → G'.get? b = some o := fun b o q => (gk b (Nat.ne_of_lt (Nat.lt_of_lt_of_le (Heap.lt_size q) M.new))).trans (M.keep b o q)
    have ob : ObjOk X.prog X.w (upd H1 d (.xd [(f, v)])) G' d (.xd [(f, v)]) :=
      ⟨_, hns.at (fun o q => (gk d M.dne).trans q), fun y => relO_one rv f y⟩
    have J : Inv X pins σ (upd H1 d (.xd [(f, v)])) ⟨G', g, dr, tk', os⟩ := I1.laid (t' := tk') old M.dbig ob
    refine ⟨e, oe, fv, ⟨G', g, dr, tk', os⟩, _, .ref C, some d, rfl, J, fun b o q => ?_, ge, hoe, ⟨hc, hd⟩, hdat, h1, ?_, rfl, I1.bare, raises_own T.exC T.tyC, q1 d (I1.hok.fresh M.dbig)⟩
    · by_cases hb : b = e
      · have q' : G'.get? b = some o := q
        rw [hb, ge] at q'; cases q'
      · exact (gk b hb).symm.trans q
    · rw [upd_ne (Ne.symm M.dne)]
      exact I1.hok.fresh M.new
/-- raise Err(e) -/
def tRaiseErr (C : Addr) (f : Str) (W : WX) (ta : TA) : TS := fun _ σ H => tMkErr C f ta σ H fun cls d H' => W cls d σ H'
theorem ps_raiseErr {a : Expr} {ta : TA} {W : WX} {p pos pos2 : Pos} {k : Nat} (hc : X.calm = true) (T : PySem.ErrX.ErrTxt X.prog X.K C x f) (hm : X.mg nm = some (.ref C)) (hsu : X.mg "super" = none) (hr : Room k X.A) (tk : Takes X W) (ha : PA X [a] ta) (hg : Gl X nm := by rfl) (hdb : (nm == ("__debug__" : Str)) = false := by decide)
    (he : starEach (a :: []) X.env = (false, eval a X.env) :: starEach [] X.env := by rfl) (hpl : (backTo pos (starEach [] X.env)).any (·.1) = false := by rfl) :
    PS X (.Raise (some (.Call (.Name nm p) [a] [] pos)) none pos2) (tRaiseErr C f W ta) := ps_raise hc tk (pmk_err T hm hsu hr ha hg hdb he hpl)
theorem errXf {P : Program} {K : PySem.W.Frag} (T : PySem.ErrX.ErrTxt P K C x f) : XfC K C := ⟨T.ga, T.gg, T.exC, T.hdC⟩
end
end L2
namespace PySem.W
open PySem PySem.Spec PySem.Calls PyProof.Rows
section
variable {prog : Program} {w : World} {A : Around} {E : Value → Shared → Prop} {s : Shared} {K : Frag} {x D : Addr} {ox : Obj} {od : Option Obj}
theorem findObj_dat {C : Addr} {name : Str} {a g : Value} (hc : (clsIn K C).isSome = true) (ha : findIn K (.ref C) name = some (some a)) (hg : specialIn K a "__get__" = some (some g)) (ht : takesIn K a = some true) : findObj K C od name = some (.bind g a) := by
  obtain ⟨cd, hc⟩ := Option.isSome_iff_exists.mp hc
  unfold findObj
  rw [hc, Option.bind_some, ha, Option.bind_some]
  simp [hg, ht]
end
end PySem.W
namespace L2
open PySem PySem.Spec PyProof.Rows
/-- isinstance(e, c), e the own error that the suite holds (its class cls, its dict d) -/
def rIsErr (K : PySem.W.Frag) (a : Addr) (cls : Value) (d : Option Addr) : List V → Hp → VK → Prop := fun xs H Q => ∃ (c : V) (cv : Value) (b : Bool) (D dd : Addr) (fs : List (Str × V)), xs = [.ref a, c] ∧ cls = .ref D ∧ ExcC K D ∧ d = some dd ∧ H dd = some (.xd fs) ∧
  (∀ u, RelV c u → u = cv) ∧ PySem.W.kitOne K (.ref D) cv = some b ∧ Q (.bl b) H
theorem call_isErr {X : Cx} {a : Addr} {oe : Obj} {cls : Value} {d : Option Addr} {pn : List (Addr × Obj)} (hz : Zc cls d oe) (hf : ∃ vs, oe.data = .fields vs) : CallR (X.suite a ((a, oe) :: pn)) (.builtin "isinstance") (rIsErr X.K a cls d) := by
  intro pins s σ H xs us Q I r h
  obtain ⟨c, cv, b, D, dd, fs, rfl, rfl, C, rfl, hd, hcv, e, q⟩ := h
  cases r with
  | cons rx rr =>
    cases rr with
    | cons rt rr =>
      cases rr
      cases rx
      have ec := hcv _ rt
      subst ec
      obtain ⟨hget, _⟩ := I.pin (a, oe) (List.mem_append.mpr (.inl List.mem_cons_self))
      obtain ⟨vs, hv⟩ := hf
      have hx : ObjOk X.prog X.w H s.heap dd (.xd fs) := I.hok dd _ hd
      obtain ⟨mA, hns, _⟩ := hx
      obtain ⟨od, ho, _⟩ := lookIn_ns hns
      have J : PySem.W.InstAt s.heap a oe D (some od) := ⟨hget, hz.1, by unfold PySem.W.notCls; rw [hv] <;> rfl, by rw [hz.2]; exact ho⟩
      have hcl : (PySem.W.clsIn X.K D).isSome = true := by
        obtain ⟨cd, hc, _⟩ := PySem.W.any_some C.hd
        rw [hc]
        rfl
      exact PySem.W.kia_one (PySem.W.kitx_exc hcl C.hg C.hk C.hs C.ha C.hn C.ht C.hm) I.kIn J e (fun z => nomatch z) fun tk => ⟨.bl b, H, I.kept (t' := tk) fun _ _ z => z, rfl, q⟩
def excB (K : PySem.W.Frag) (D : Addr) : Bool := decide (PySem.W.findIn K (.ref D) "__getattribute__" = some (some (.builtin "BaseException.__getattribute__"))) && (decide (PySem.W.findIn K (.ref D) "__getattr__" = some none) && (decide (PySem.W.subIn K (.ref D) (.type "BaseException") = some true) &&
  (PySem.W.hasDictIn K D && (decide (PySem.W.findIn K (.ref D) "__class__" = some (some (.builtin "object.__class__"))) && (decide (PySem.W.specialIn K (.builtin "object.__class__") "__get__" = some (some (.builtin "getset_descriptor.__get__"))) && (decide (PySem.W.takesIn K (.builtin "object.__class__") = some true) && decide (PySem.W.mroIn K D (.type "object") = some true)))))))
theorem excB_ok {K : PySem.W.Frag} {D : Addr} (h : excB K D = true) : ExcC K D := by
  unfold excB at h
  simp only [Bool.and_eq_true, decide_eq_true_eq] at h
  obtain ⟨h1, h2, h3, h4, h5, h6, h7, h8⟩ := h
  exact ⟨h1, h2, h3, h4, h5, h6, h7, h8⟩
end L2
/-! ### the head's facts: defs, error classes, and one Bool of one's own -/
namespace Hd
open PySem PySem.Spec PyProof.Rows L2 He
abbrev FnE : Type := Option (Str × Str × Arguments × FuncBody × Scope × Addr × List Str × Addr)
def fnE (K : PySem.W.Frag) (p : Str × Option Str) : FnE := match K.lookup (fAd K p) with
  | some ⟨_, _, .func fd, _⟩ => some (fd.name, fd.qualname, fd.params, fd.body, fd.scope, fd.globals, fd.closure.map (·.1), fd.builtins)
  | _ => none
/-- a method with a closure over __class__: where it stands, its statement in the text -/
structure ErD where
  cls : Str
  qual : Str
  st : Stmt
def ErD.val (d : ErD) : FnE := some ("__init__", d.qual, defArgs d.st, .stmts (defBody d.st), defScope d.st, mainGlobals, ["__class__"], builtinsNs)
def clsB (K : PySem.W.Frag) (C : Addr) : Bool := match K.lookup C with
  | some ⟨.type "type", _, .cls cd, sl⟩ => (match cd.mro, sl.toList with
    | .ref C' :: bm, [_, _, _, _, some (.builtin n), _] => C' == C && (n == "ValueError.__new__" && (!cd.hasDel && (cd.hasDict && PySem.HandSPX.refsVE bm)))
    | _, _ => false)
  | _ => false
theorem clsB_ok {K : PySem.W.Frag} {C : Addr} (h : clsB K C = true) : ∃ nm q N bs bm sn sub ab col dd k0 k1 k2 k3 k5, K.lookup C = some (excClassObj nm q C N bs bm true sn sub ab col dd k0 k1 k2 k3 k5 "ValueError.__new__") ∧ PySem.HandSPX.refsVE bm = true := by
  unfold clsB at h
  split at h
  · rename_i dd cd sl ho
    split at h
    · rename_i C' bm k0 k1 k2 k3 n k5 hm hs
      simp only [Bool.and_eq_true, beq_iff_eq, Bool.not_eq_true'] at h
      obtain ⟨rfl, rfl, hdel, hdi, hbm⟩ := h
      obtain ⟨nm, bs, mro, ns, qn, hd, sn, sub, ab, col, del⟩ := cd
      dsimp only at hm hdel hdi
      subst hm hdel hdi
      have hsl : sl = #[k0, k1, k2, k3, some (.builtin "ValueError.__new__"), k5] := by
        obtain ⟨l⟩ := sl
        simp only at hs
        rw [hs]
      subst hsl
      exact ⟨nm, qn, ns, bs, bm, sn, sub, ab, col, dd, k0, k1, k2, k3, k5, ho, hbm⟩
    · cases h
  · cases h
def alongB (K : PySem.W.Frag) (C : Addr) : Bool := match PySem.W.clsIn K C with
  | some cd => decide (PySem.W.alongIn K "__init__" ((cd.mro.dropWhile (· != .ref C)).drop 1) = some (some (.builtin "ValueError.__init__")))
  | none => false
theorem alongB_ok {K : PySem.W.Frag} {C : Addr} (h : alongB K C = true) : ∃ cd, PySem.W.clsIn K C = some cd ∧ PySem.W.alongIn K "__init__" ((cd.mro.dropWhile (· != .ref C)).drop 1) = some (some (.builtin "ValueError.__init__")) := by
  unfold alongB at h
  split at h
  · rename_i cd hc
    exact ⟨cd, hc, of_decide_eq_true h⟩
  · cases h
def initB (P : Program) (K : PySem.W.Frag) (fI C : Addr) (qual : Str) : Bool := match K.lookup fI with
  | some ⟨_, _, .func fd, _⟩ => (match fd.defaults, fd.code, fd.closure with
    | .none, .ref cda, [(_, cc)] => PySem.W.codeIn K (.ref cda) qual && ((match K.lookup cda with
      | some ⟨_, _, .fields vs, _⟩ => (match (vs[2]? : Option Value) with
        | some (.str file _) => ((P.main.file : Str) == file)
        | _ => false)
      | _ => false) && (match K.lookup cc with
      | some ⟨_, _, .cell (some (.ref C')), _⟩ => C' == C
      | _ => false))
    | _, _, _ => false)
  | _ => false
def errB (P : Program) (K : PySem.W.Frag) (c f qual : Str) : Bool :=
  clsB K (ga K c) && (alongB K (ga K c) && (decide (PySem.W.nsIn K cStatics "thirdparty.any" = some none) && (decide (PySem.W.mroIn K (ga K c) (.ref (ga K c)) = some true) && (decide (PySem.W.subIn K (.ref (ga K c)) (.type "ValueError") = some true) &&
  (eqO (PySem.W.findIn K (.ref (ga K c)) "__setattr__") (some (some (.builtin "object.__setattr__"))) && (eqO (PySem.W.findIn K (.ref (ga K c)) "__getattribute__") (some (some (.builtin "BaseException.__getattribute__"))) &&
  (eqO (PySem.W.findIn K (.ref (ga K c)) "__getattr__") (some none) && (eqO (PySem.W.findIn K (.ref (ga K c)) f) (some none) && (PySem.W.keepIn K (.ref (ga K c)) && (decide (PySem.W.subIn K (.ref (ga K c)) (.type "BaseException") = some true) &&
  (decide (PySem.W.typeIn K (.ref (ga K c)) = some (.type "type")) && (PySem.W.hasDictIn K (ga K c) && (eqO (PySem.W.findIn K (.ref (ga K c)) "__init__") (some (some (.ref (ma K (ga K c) "__init__")))) &&
  (decide (PySem.W.typeIn K (.ref (ma K (ga K c) "__init__")) = some (.type "function")) && initB P K (ma K (ga K c) "__init__") (ga K c) qual))))))))))))))
theorem err_mk {P : Program} {K : PySem.W.Frag} {c f x qual msg : Str} {st : Stmt} {p1 p2 q1 q2 q3 q4 q5 q6 q7 q8 q9 q10 : Pos} (h : errB P K c f qual = true) (e : fnE K (c, some "__init__") = (ErD.mk c qual st).val)
    (hA : defArgs st = PySem.ErrX.iA x p1 p2) (hB : defBody st = PySem.ErrX.iB x f msg q1 q2 q3 q4 q5 q6 q7 q8 q9 q10) (hS : defScope st = PySem.ErrX.iS x) (hl : (q3.endLine == q5.line) = true)
    (top : (P.main.scope.names.lookup ("super" : Str)).isSome = false) (xs : (x == ("self" : Str)) = false) (xc : (("__class__" : Str) == x) = false) (xu : (("super" : Str) == x) = false) (xd : (x == ("__debug__" : Str)) = false)
    (bnd : ∀ (nm qual : Str) (Bd : List Stmt) (kV doc pm : Value) (an : Option Addr) (cdv ct : Value) (cc : Addr) (p1 p2 : Pos) (u v : Value), bindArgs (PySem.W.ksFn nm qual (PySem.ErrX.iA x p1 p2) Bd (PySem.ErrX.iS x) .none kV doc pm an cdv ct cc) ⟨[u, v], []⟩ = pure [(("self" : Str), u), (x, v)]) :
    PySem.ErrX.ErrTxt P K (ga K c) x f := by
  unfold errB at h
  obtain ⟨h1, h⟩ := ba h
  obtain ⟨h2, h⟩ := ba h
  obtain ⟨h3, h⟩ := ba h
  obtain ⟨h4, h⟩ := ba h
  obtain ⟨h5, h⟩ := ba h
  obtain ⟨h6, h⟩ := ba h
  obtain ⟨h7, h⟩ := ba h
  obtain ⟨h8, h⟩ := ba h
  obtain ⟨h9, h⟩ := ba h
  obtain ⟨h10, h⟩ := ba h
  obtain ⟨h11, h⟩ := ba h
  obtain ⟨h12, h⟩ := ba h
  obtain ⟨h13, h⟩ := ba h
  obtain ⟨h14, h⟩ := ba h
  obtain ⟨h15, h16⟩ := ba h
  refine ⟨clsB_ok h1, alongB_ok h2, of_decide_eq_true h3, of_decide_eq_true h4, of_decide_eq_true h5, eqO_ok h6, eqO_ok h7, eqO_ok h8, eqO_ok h9, h10, of_decide_eq_true h11, of_decide_eq_true h12, h13,
    ⟨ma K (ga K c) "__init__", eqO_ok h14, of_decide_eq_true h15, ?_⟩, top, xs, xc, xu, xd, bnd⟩
  unfold initB at h16
  have e2 : fnE K (c, some "__init__") = (match K.lookup (ma K (ga K c) "__init__") with
    | some ⟨_, _, .func fd, _⟩ => some (fd.name, fd.qualname, fd.params, fd.body, fd.scope, fd.globals, fd.closure.map (·.1), fd.builtins)
    | _ => none) := rfl
  rw [e2] at e
  cases q : K.lookup (ma K (ga K c) "__init__") with
  | none =>
    rw [q] at h16
    cases h16
  | some o =>
    obtain ⟨oc, od, dt, osl⟩ := o
    rw [q] at h16 e
    cases dt with
    | func fd =>
      obtain ⟨n1, n2, n3, n4, n5, n6, n7, n8, n9, n10, n11, n12, n13, n14, n15⟩ := fd
      have e3 : (some (n1, n2, n3, n4, n5, n6, n7.map (·.1), n15) : FnE) = (some (("__init__" : Str), qual, defArgs st, FuncBody.stmts (defBody st), defScope st, mainGlobals, [("__class__" : Str)], builtinsNs) : FnE) := e
      simp only [Option.some.injEq, Prod.mk.injEq] at e3
      obtain ⟨e1, e2, e3, e4, e5, e6, e7, e8⟩ := e3
      subst e1 e2 e3 e4 e5 e6 e8
      dsimp only at h16
      split at h16
      · rename_i cda nn cc
        obtain ⟨k1, k2⟩ := ba h16
        obtain ⟨k2, k3⟩ := ba k2
        have en : nn = ("__class__" : Str) := by simpa using e7
        subst en
        refine ⟨oc, od, n10, n11, n9, n12, cda, cc, n14, osl, "__init__", n2, msg, p1, p2, q1, q2, q3, q4, q5, q6, q7, q8, q9, q10, hl, ?_, k1, ?_, ?_⟩
        · rw [← hA, ← hB, ← hS]
        · split at k2
          · rename_i ccl cdd vs ccs hc
            split at k2
            · rename_i file tf hv
              exact ⟨ccl, cdd, vs, ccs, file, tf, hc, hv, k2⟩
            · cases k2
          · cases k2
        · split at k3
          · rename_i cl cld C' csl hc
            have ec : C' = ga K c := by simpa using k3
            subst ec
            exact ⟨cl, cld, csl, hc⟩
          · cases k3
      · cases h16
    | _ => cases h16
/-! ### the Hook -/
def asP (g : Addr → Option Obj) (n : Nat) : List Addr := cStatics :: asD g n
abbrev AlP : Type := Bool × List FnW × List FnE
def obsP (fn : List DefD) (er : List ErD) (ex : PySem.W.Frag → Bool) (K : PySem.W.Frag) : AlP := (ex K && fn.all fun d => d.ok K, fn.map fun d => fnW K d.at_, er.map fun d => fnE K (d.cls, some "__init__"))
def valP (fn : List DefD) (er : List ErD) : AlP := (true, fn.map DefD.val, er.map ErD.val)
def SaysP (fn : List DefD) (er : List ErD) (ex : PySem.W.Frag → Bool) (K : PySem.W.Frag) : Prop := obsP fn er ex K = valP fn er
def obsPG (n : Nat) (fn : List DefD) (er : List ErD) (ex : PySem.W.Frag → Bool) (g : Addr → Option Obj) : AlP := obsP fn er ex (frG g (asP g n))
def hookP (n : Nat) (fn : List DefD) (er : List ErD) (ex : PySem.W.Frag → Bool) : PySem.W.Hook where
  α := AlP
  obs := fun s => obsPG n fn er ex s.heap.get?
  val := fun _ => valP fn er
  says := fun _ h => ∃ K : PySem.W.Frag, K.In h ∧ SaysP fn er ex K
  of := fun _ _ e => ⟨_, frG_in, e⟩
  keeps := fun _ _ _ ⟨K, hK, c⟩ k => ⟨K, PySem.W.Frag.In.keeps hK k, c⟩
theorem obsPG_eq {n : Nat} {fn : List DefD} {er : List ErD} {ex : PySem.W.Frag → Bool} {g : Addr → Option Obj} {s : Shared} (h : ∀ a, g a = s.heap.get? a) : obsPG n fn er ex g = (hookP n fn er ex).obs s := by
  have e : g = s.heap.get? := funext h
  rw [e] <;> rfl
section
variable {fn : List DefD} {er : List ErD} {ex : PySem.W.Frag → Bool} {K : PySem.W.Frag}
theorem SaysP.more (c : SaysP fn er ex K) : ex K = true := (ba (show (ex K && fn.all fun d => d.ok K) = true from congrArg (fun z : AlP => z.1) c)).1
theorem SaysP.def_ (c : SaysP fn er ex K) (i : Nat) {d : DefD} (h : fn[i]? = some d := by rfl) : ∃ fd, FunD K d.name d.qual d.params d.body d.scope (d.dvs K) (d.kws K) (fAd K d.at_) fd := by
  have c2 := (ba (show (ex K && fn.all fun d => d.ok K) = true from congrArg (fun z : AlP => z.1) c)).2
  have e : fn.map (fun d => fnW K d.at_) = fn.map DefD.val := congrArg (fun z : AlP => z.2.1) c
  have e2 : (fn.map fun d => fnW K d.at_)[i]? = (fn.map DefD.val)[i]? := by rw [e]
  rw [List.getElem?_map, List.getElem?_map, h] at e2
  exact DefD.funD (Option.some.inj e2) (List.all_eq_true.mp c2 d (List.mem_of_getElem? h))
theorem SaysP.err_ (c : SaysP fn er ex K) (i : Nat) {d : ErD} (h : er[i]? = some d := by rfl) : fnE K (d.cls, some "__init__") = d.val := by
  have e : er.map (fun d => fnE K (d.cls, some "__init__")) = er.map ErD.val := congrArg (fun z : AlP => z.2.2) c
  have e2 : (er.map fun d => fnE K (d.cls, some "__init__"))[i]? = (er.map ErD.val)[i]? := by rw [e]
  rw [List.getElem?_map, List.getElem?_map, h] at e2
  exact Option.some.inj e2
end
def tkOf : Option Value → Tok
  | some (.int _ t) => t
  | some (.str _ t) => t
  | _ => 0
theorem int_tk {o : Option Value} {i : Int} (h : ∃ t, o = some (.int i t)) : o = some (.int i (tkOf o)) := by
  obtain ⟨t, e⟩ := h
  rw [e] <;> rfl
theorem str_tk {o : Option Value} {z : Str} (h : ∃ t, o = some (.str z t)) : o = some (.str z (tkOf o)) := by
  obtain ⟨t, e⟩ := h
  rw [e] <;> rfl
end Hd
namespace L2
open PySem PySem.Spec PyProof.Rows
/-- a def that is promised to let nothing out -/
theorem fn_calm {P : Program} {w : World} {K : PySem.W.Frag} {mg : Str → Option Value} {base : Heap} {k : Nat} {f : Addr} {fd : FuncData} {ps : List Str} {sp : Sp} (F : FnOk P w K mg base (L2.CX P w) k f fd ps sp)
    (hs : ∀ vs H Q E, sp vs H Q E → sp vs H Q (fun _ _ _ => False)) : FnOk P w K mg base CX0 k f fd ps sp :=
  ⟨F.len, fun A outer s H args us vs Q E hr he hb hv h => codeAny_mono (F.run A outer s H args us vs Q _ hr he hb hv (hs _ _ _ _ h)) (fun r s' q => by
    cases r with
    | error e =>
      obtain ⟨_, _, _, _, _, _, _, _, _, _, _, _, z⟩ := q
      exact z.elim
    | ok f => cases f <;> exact q)⟩
end L2
namespace Hd
open PySem PySem.Spec PyProof.Rows L2 He
/-- a constant of a class, read off the class -/
def cvalB (K : PySem.W.Frag) (C : Addr) (f : Str) (v : V) : Bool := match PySem.W.findCls K (.ref C) (.type "type") f with
  | some (.val u) => relB v u
  | _ => false
theorem cvalB_ok {K : PySem.W.Frag} {C : Addr} {f : Str} {v : V} (h : cvalB K C f v = true) : ∃ u, ClX.CVal K C (.type "type") f v u := by
  unfold cvalB at h
  split at h
  · rename_i u e
    exact ⟨u, e, relB_ok h⟩
  · cases h
end Hd
/-! ### calls of defs by positional promises; what is raised is wished for at the caller's slots -/
namespace Cl
open PySem PySem.Spec PyProof.Rows L2
section
variable {X : Cx} {CX : CXT} {k : Nat} {f C g : Addr} {sp : Sp} {E : L2.St → XK} {x m : Str} {p pos apos : Pos} {e o fe : Expr} {es : List Expr} {ta tf : TE} {t : TA}
theorem runS {pins : List (Addr × Obj)} {σ : L2.St} {H : Hp} {s : Shared} {Q : VK} {us : List Value} {vs : List V} (F : FnR X.prog X.w X.K X.mg X.base CX k f sp) (hr : Room k X.A) (hx : PassesAt CX X σ (E σ)) (I : Inv X pins σ H s) (r : Vals vs us) (h : sp vs H Q (E σ)) :
    codeAny (model X.prog X.w) X.A (.call (.ref f) ⟨us, []⟩) (fun r s' => match r with | .ok (.ret v) => EP X pins σ Q v s' | .ok _ => False | .error e => X.xe e s') s :=
  codeAny_mono (F X.A X.stack s H us vs Q (E σ) hr I.env0 r h) fun r s' hq => by
    cases r with
    | error er => exact hx pins H s er s' I hq
    | ok fl => cases fl <;> first | exact I.after hq | exact False.elim hq
/-- f(e, ..) -/
def tF (sp : Sp) (E : L2.St → XK) (t : TA) : TE := fun σ H Q => t σ H fun vs H1 => sp vs H1 Q (E σ)
theorem pe_f (F : FnR X.prog X.w X.K X.mg X.base CX k f sp) (hr : Room k X.A) (hg : Gl X x) (hm : X.mg x = some (.ref f)) (hk : PySem.W.keepIn X.K (.ref f) = true) (hx : ∀ σ, PassesAt CX X σ (E σ)) (ha : PA X (e :: es) t)
    (hdb : (x == ("__debug__" : Str)) = false := by decide) (he : starEach (e :: es) X.env = (false, eval e X.env) :: starEach es X.env := by rfl) (hpl : (backTo pos (starEach es X.env)).any (·.1) = false := by rfl) :
    PE X (.Call (.Name x p) (e :: es) [] pos) (tF sp E t) :=
  ⟨fun pins s σ H Q I h => wpAny_Call_Name_kw (ld_glob I hg hm (PySem.W.callWith_K (h₀ := X.base) I.ok.mod.kin hk (thn (ha.run pos pins s σ H _ I h) fun us s1 ⟨vs, H1, I1, r, q⟩ => ⟨I1.kIn, wpAny_call (runS F hr (hx σ) I1 r q)⟩) he hpl) hdb)⟩
theorem pe_f0 (F : FnR X.prog X.w X.K X.mg X.base CX k f sp) (hr : Room k X.A) (hg : Gl X x) (hm : X.mg x = some (.ref f)) (hk : PySem.W.keepIn X.K (.ref f) = true) (hx : ∀ σ, PassesAt CX X σ (E σ)) (hdb : (x == ("__debug__" : Str)) = false := by decide) :
    PE X (.Call (.Name x p) [] [] pos) (tF sp E tNil) :=
  ⟨fun pins s σ H Q I h => wpAny_Call_Name_kw (ld_glob I hg hm (PySem.W.callWith_K0 I.kIn hk (wpAny_call (runS (us := []) F hr (hx σ) I .nil h))) hdb)⟩
/-- o.m(e, ..) -/
def tM (C : Addr) (m : Str) (sp : Sp) (E : L2.St → XK) (ta : TE) (t : TA) : TE := fun σ H Q => ta σ H fun x H1 => ∃ a dx fs, x = .ref a ∧ H1 a = some (.ins C dx fs) ∧ fs.lookup m = none ∧ t σ H1 fun vs H2 => sp (.ref a :: vs) H2 Q (E σ)
theorem pe_m {pl : Sem Bool} (he : PE X o ta) (c : Cls X.K C) (hm : Meth X.K C m f) (F : FnR X.prog X.w X.K X.mg X.base CX k f sp) (hr : Room k X.A) (hx : ∀ σ, PassesAt CX X σ (E σ)) (ha : PA X (e :: es) t)
    (hst : starEach (e :: es) X.env = (false, eval e X.env) :: starEach es X.env := by rfl) (hpl : (backTo pos (starEach es X.env)).any (·.1) = false := by rfl)
    (ht : eval (.Call (.Attribute o m apos) (e :: es) [] pos) X.env = (do
      let ov ← eval o X.env
      standAt apos.atName
      let (f, first) ← holding [ov] (getMethod ov m pl)
      callWith pos f first (backTo pos (starEach (e :: es) X.env)) (backToKw pos (keywordEach [] X.env))) := by rfl) :
    PE X (.Call (.Attribute o m apos) (e :: es) [] pos) (tM C m sp E ta t) := by
  refine ⟨fun pins s σ H Q I h => PySem.W.methodCall_KW (pl := pl) (thn (he.run pins s σ H _ I h) fun u s1 ⟨x, H1, I1, rx, a, dx, fs, ex, ea, l, q⟩ => ?_) ht⟩
  subst ex
  obtain rfl : u = Value.ref a := rx
  exact getmeth_ok I1 ea c hm l (PySem.W.callWith_K (first := [.ref a]) (h₀ := X.base) I.ok.mod.kin hm.kp (thn (ha.run pos pins s1 σ H1 _ I1 q) fun us s2 ⟨vs, H2, I2, r, q2⟩ => ⟨I2.kIn, wpAny_call (runS (us := .ref a :: us) (vs := .ref a :: vs) F hr (hx σ) I2 (.cons rfl r) q2)⟩) hst hpl)
theorem pe_m0 {pl : Sem Bool} (he : PE X o ta) (c : Cls X.K C) (hm : Meth X.K C m f) (F : FnR X.prog X.w X.K X.mg X.base CX k f sp) (hr : Room k X.A) (hx : ∀ σ, PassesAt CX X σ (E σ))
    (ht : eval (.Call (.Attribute o m apos) [] [] pos) X.env = (do
      let ov ← eval o X.env
      standAt apos.atName
      let (f, first) ← holding [ov] (getMethod ov m pl)
      callWith pos f first (backTo pos (starEach [] X.env)) (backToKw pos (keywordEach [] X.env))) := by rfl) :
    PE X (.Call (.Attribute o m apos) [] [] pos) (tM C m sp E ta tNil) := by
  refine ⟨fun pins s σ H Q I h => PySem.W.methodCall_KW (pl := pl) (thn (he.run pins s σ H _ I h) fun u s1 ⟨x, H1, I1, rx, a, dx, fs, ex, ea, l, q⟩ => ?_) ht⟩
  subst ex
  obtain rfl : u = Value.ref a := rx
  exact getmeth_ok I1 ea c hm l (PySem.W.callWith_K0 (first := [.ref a]) I1.kIn hm.kp (wpAny_call (runS (us := [.ref a]) (vs := [.ref a]) F hr (hx σ) I1 (.cons rfl .nil) q)))
/-- C(e, ..) -/
def tMk (C : Addr) (sp : Sp) (E : L2.St → XK) (t : TA) : TE := fun σ H Q => t σ H fun vs H1 => ∀ x dx, H1 x = none → H1 dx = none → dx ≠ x → sp (.ref x :: vs) (upd (upd H1 dx (.own x)) x (.ins C dx [])) (fun v H2 => v = .non ∧ Q (.ref x) H2) (E σ)
theorem runMk {pins : List (Addr × Obj)} {σ : L2.St} {H : Hp} {s : Shared} {Q : VK} {us : List Value} {vs : List V} (M : Mk X.K C f) (F : FnR X.prog X.w X.K X.mg X.base CX k f sp) (hr : Room (k + 1) X.A) (hx : PassesAt CX X σ (E σ)) (I : Inv X pins σ H s) (r : Vals vs us)
    (h : ∀ x dx, H x = none → H dx = none → dx ≠ x → sp (.ref x :: vs) (upd (upd H dx (.own x)) x (.ins C dx [])) (fun v H2 => v = .non ∧ Q (.ref x) H2) (E σ)) :
    wpAny (model X.prog X.w) X.A (call (.ref C) us) (EP X pins σ Q) X.xe s := by
  have hq := h (s.heap.objs.size + 1) s.heap.objs.size (I.hok.fresh (Nat.le_succ _)) (I.hok.fresh (Nat.le_refl _)) (Nat.ne_of_lt (Nat.lt_succ_self _))
  have I2 := Inv.made (C := C) I
  have r2 : Vals (V.ref (s.heap.objs.size + 1) :: vs) (Value.ref (s.heap.objs.size + 1) :: us) := .cons rfl r
  refine wpAny_call (make_map (f := f) I.kIn M.makes M.init (beq_iff_eq.mp M.fn) (codeAny_mono (F _ X.stack _ _ (Value.ref (s.heap.objs.size + 1) :: us) _ _ (E σ) (hr.make C us []) (I2.env0.make C us []) r2 hq) fun r s' hq' => ?_))
  cases r with
  | error er => exact hx pins _ _ er s' I2 hq'
  | ok fl =>
    cases fl with
    | ret u =>
      obtain ⟨v, H', I3, rv, ev, q3⟩ := I2.after hq'
      subst ev
      exact ⟨rv, ⟨V.ref (s.heap.objs.size + 1), H', I3, rfl, q3⟩⟩
    | _ => exact False.elim hq'
theorem pe_mk (M : Mk X.K C f) (F : FnR X.prog X.w X.K X.mg X.base CX k f sp) (hr : Room (k + 1) X.A) (hg : Gl X x) (hm : X.mg x = some (.ref C)) (hx : ∀ σ, PassesAt CX X σ (E σ)) (ha : PA X (e :: es) t) (hdb : (x == ("__debug__" : Str)) = false := by decide)
    (he : starEach (e :: es) X.env = (false, eval e X.env) :: starEach es X.env := by rfl) (hpl : (backTo pos (starEach es X.env)).any (·.1) = false := by rfl) : PE X (.Call (.Name x p) (e :: es) [] pos) (tMk C sp E t) :=
  ⟨fun pins s σ H Q I h => wpAny_Call_Name_kw (ld_glob I hg hm (PySem.W.callWith_K (h₀ := X.base) I.ok.mod.kin M.kp (thn (ha.run pos pins s σ H _ I h) fun us s1 ⟨vs, H1, I1, r, q⟩ => ⟨I1.kIn, runMk M F hr (hx σ) I1 r q⟩) he hpl) hdb)⟩
theorem pe_mk0 (M : Mk X.K C f) (F : FnR X.prog X.w X.K X.mg X.base CX k f sp) (hr : Room (k + 1) X.A) (hg : Gl X x) (hm : X.mg x = some (.ref C)) (hx : ∀ σ, PassesAt CX X σ (E σ)) (hdb : (x == ("__debug__" : Str)) = false := by decide) : PE X (.Call (.Name x p) [] [] pos) (tMk C sp E tNil) :=
  ⟨fun pins s σ H Q I h => wpAny_Call_Name_kw (ld_glob I hg hm (PySem.W.callWith_K0 I.kIn M.kp (runMk (us := []) M F hr (hx σ) I .nil h)) hdb)⟩
/-- what is raised goes on to the def's own wish -/
theorem at_ {W : WX} (tk : Takes X W) (σ : L2.St) : PassesAt (L2.CX X.prog X.w) X σ (WE W σ) := passAt tk σ
end
/-! ### a def with a star parameter -/
section
variable {P : Program} {w : World} {K : PySem.W.Frag} {mg : Str → Option Value} {base : Heap} {x qual : Str} {params : Arguments} {body : List Stmt} {scope : Scope} {dvs : List V} {kws : List (Str × V)} {f : Addr} {fd : FuncData}
theorem okStar {CX : CXT} {N ps : List Str} {pv : Str} {k : Nat} {sp : Sp} (F : FunD K x qual params body scope [] kws f fd) (S : FnScope N (ps ++ [pv]) scope) (hCX : StX.CXUp CX)
    (hb : ∀ (kV doc pm : Value) (an : Option Addr) (cdv ct : Value) (us rest : List Value), us.length = ps.length → bindArgs (PySem.W.fnOf x qual params body scope .none kV doc pm an cdv ct) ⟨us ++ rest, []⟩ = (newTuple rest >>= fun t => pure (ps.zip us ++ [(pv, t)])))
    (hbody : ∀ (cdv : Value) (A : Around) (outer : List Env) (s : Shared) (H : Hp) (vs : List V) (Q : VK) (E : XK), Room k (A.deeper (envOfC qual scope s.heap.objs.size f cdv)) → sp vs H Q E →
      ∃ t, PSs (cxOf CX P w K mg base N qual scope f cdv A outer s H E) body t ∧ t { nx := fun _ H' => Q .non H', rt := Q } (start N vs) H) :
    FnR P w K mg base CX (k + 1) f (fun vs H Q E => ∃ ws rest, vs = ws ++ rest ∧ ws.length = ps.length ∧ rest.length ≤ sizeLine ∧ ∀ p, H p = none → sp (ws ++ [V.ref p]) (upd H p (.tup rest)) Q E) := by
  obtain ⟨oc, od, dV, kV, doc, pm, an, cdv, ct, osl, rfl, lk, hcd, hD, _⟩ := F.ex
  obtain rfl : dV = .none := by
    rcases hD with ⟨_, e⟩ | ⟨e, _⟩
    · exact e
    · exact absurd rfl e
  exact StX.fn_star lk hcd S hCX (hb kV doc pm an cdv ct) fun A outer s H vs Q E hr hsp => hbody cdv A outer s H vs Q E hr hsp
end
end Cl
/-! ### the layer's rules with the written part K named (so that a comprehension's block may use them) -/
namespace Cl
open PySem PySem.Spec PyProof.Rows L2
section
variable {X : Cx} {e o value a : Expr} {ta tv tl : TE} {f : Str} {pos pos' : Pos} {tg : Expr}
theorem ixL (K : PySem.W.Frag) (hK : X.K = K := by rfl) : IxR X (rIxL K) := hK ▸ ix_list
theorem ixT (K : PySem.W.Frag) (hK : X.K = K := by rfl) : IxR X (rIxT K) := hK ▸ ix_tup
theorem slL (K : PySem.W.Frag) (hK : X.K = K := by rfl) : SlR X (rSlL K) := hK ▸ sl_list
def qLen (K : PySem.W.Frag) : List V → Hp → VK → Prop := fun xs H Q => ∃ p ys, xs = [.ref p] ∧ (SqL K H p ys ∨ SqT K H p ys) ∧ Q (.int ys.length) H
theorem len (K : PySem.W.Frag) (hK : X.K = K := by rfl) : CallR X (.builtin "len") (qLen K) := hK ▸ call_len_seq
def qList (K : PySem.W.Frag) : List V → Hp → VK → Prop := fun xs H Q => ∃ p ys, xs = [.ref p] ∧ (SqL K H p ys ∨ SqT K H p ys) ∧ ∀ l, H l = none → Q (.ref l) (upd H l (.lst ys))
theorem listOf (K : PySem.W.Frag) (hK : X.K = K := by rfl) : CallR X (.type "list") (qList K) := hK ▸ call_list_of
def qTuple (K : PySem.W.Frag) : List V → Hp → VK → Prop := fun xs H Q => ∃ p ys, xs = [.ref p] ∧ ((SqL K H p ys ∧ ∀ l, H l = none → Q (.ref l) (upd H l (.tup ys))) ∨ (SqT K H p ys ∧ Q (.ref p) H))
theorem tupleOf (K : PySem.W.Frag) (hK : X.K = K := by rfl) : CallR X (.type "tuple") (qTuple K) := hK ▸ call_tuple_of
def qInt : List V → Hp → VK → Prop := fun xs H Q => ∃ i, xs = [.int i] ∧ Q (.int i) H
theorem int1 : CallR X (.type "int") qInt := fun pins s σ H xs us Q I r h => call_int1 pins s σ H xs us Q I r (.inl h)
theorem isi (K : PySem.W.Frag) (hK : X.K = K := by rfl) : CallR X (.builtin "isinstance") (rIsi K) := hK ▸ call_isi
theorem sum (K : PySem.W.Frag) (hc : X.calm = true := by rfl) (hK : X.K = K := by rfl) : CallR X (.builtin "sum") (rSum K) := hK ▸ cr_sum hc
theorem max1 (K : PySem.W.Frag) (hc : X.calm = true := by rfl) (hK : X.K = K := by rfl) : CallR X (.builtin "max") (rMax K) := hK ▸ cr_max hc
theorem min1 (K : PySem.W.Frag) (hc : X.calm = true := by rfl) (hK : X.K = K := by rfl) : CallR X (.builtin "min") (rMin K) := hK ▸ cr_min hc
theorem all1 (K : PySem.W.Frag) (hc : X.calm = true := by rfl) (hK : X.K = K := by rfl) : CallR X (.builtin "all") (rAll K) := hK ▸ cr_all hc
theorem any1 (K : PySem.W.Frag) (hc : X.calm = true := by rfl) (hK : X.K = K := by rfl) : CallR X (.builtin "any") (rAny K) := hK ▸ cr_any hc
theorem sorted1 (K : PySem.W.Frag) (hK : X.K = K := by rfl) : CallR X (.builtin "sorted") (rSortedI K) := hK ▸ cr_sortedI
theorem inS (K : PySem.W.Frag) (hK : X.K = K := by rfl) : OpR X (compareOp .In) (rIn K false) := hK ▸ op_in_seq
theorem ninS (K : PySem.W.Frag) (hK : X.K = K := by rfl) : OpR X (compareOp .NotIn) (rIn K true) := hK ▸ op_notIn_seq
theorem eqD (K : PySem.W.Frag) (hu : X.A.units + 64 < cLine) (hK : X.K = K := by rfl) : OpR X (compareOp .Eq) (rEqD K) := hK ▸ op_eqD hu
theorem neD (K : PySem.W.Frag) (hu : X.A.units + 64 < cLine) (hK : X.K = K := by rfl) : OpR X (compareOp .NotEq) (rNeD K) := hK ▸ op_neD hu
theorem fld (K : PySem.W.Frag) (he : PE X e ta) (hb : attributeBase e f X.env (eval e X.env) = eval e X.env := by rfl) (hK : X.K = K := by rfl) : PE X (.Attribute e f pos) (tFld K ta f) := hK ▸ pe_fld he hb
theorem sfld (K : PySem.W.Frag) (ha : PE X o ta) (hv : PE X value tv) (hs : swapsWith value (some (.Attribute o f pos')) pos.line X.env = pure false := by rfl) (hK : X.K = K := by rfl) : PS X (.Assign [.Attribute o f pos'] value pos) (sFld K ta tv f) := hK ▸ ps_fld ha hv hs
theorem piL (K : PySem.W.Frag) {l : Expr} (hl : PE X l tl) (hK : X.K = K := by rfl) : PI X tg l (iList K tl) := hK ▸ pi_list hl
theorem piT (K : PySem.W.Frag) {l : Expr} (hl : PE X l tl) (hK : X.K = K := by rfl) : PI X tg l (iTup K tl) := hK ▸ pi_tup hl
def tTruth (K : PySem.W.Frag) (ta : TE) : TT := fun σ H Q => ta σ H fun x H' => ∃ k, TruV K x H' k ∧ Q k H'
theorem truth (K : PySem.W.Frag) (ha : PE X a ta) (he : ∀ whole, isTrue a X.env whole = (do let v ← whole; standAt a.pos; holding [v] (truthy v)) := by intro _; rfl) (hK : X.K = K := by rfl) : PT X a (tTruth K ta) := hK ▸ pt_truth ha he
theorem pgT (K : PySem.W.Frag) {es : List Expr} {k : Nat} {t : TGs} {n : Nat} (h : PGs X es t) (hc : X.calm = true := by rfl) (hn : (assignEach es X.env).length = n := by rfl) (hst : (assignEach es X.env).findIdx? (·.1) = none := by rfl) (hK : X.K = K := by rfl) : PG X (.Tuple es k pos) (gTup K n t) := hK ▸ pg_tup hc h hn hst
theorem piE (K : PySem.W.Frag) {ta : TA} {p tpos : Pos} {elts : List Expr} {kk : Nat} (hg : Gl X "enumerate") (hm : X.mg "enumerate" = none) (ha : PA X [e] ta) (hs : starEach [e] X.env = [(false, eval e X.env)] := by rfl) (hK : X.K = K := by rfl) :
    PI X (.Tuple elts kk tpos) (.Call (.Name "enumerate" p) [e] [] pos) (iEnum K ta) := hK ▸ pi_enum hg hm ha hs
theorem piZ (K : PySem.W.Frag) {e2 : Expr} {ta : TA} {p tpos : Pos} {elts : List Expr} {kk : Nat} (hg : Gl X "zip") (hm : X.mg "zip" = none) (ha : PA X [e, e2] ta)
    (hs : starEach [e, e2] X.env = (false, eval e X.env) :: starEach [e2] X.env := by rfl) (hpl : (backTo pos (starEach [e2] X.env)).any (·.1) = false := by rfl) (hK : X.K = K := by rfl) :
    PI X (.Tuple elts kk tpos) (.Call (.Name "zip" p) [e, e2] [] pos) (iZip K ta) := hK ▸ pi_zip hg hm ha hs hpl
theorem cval (K : PySem.W.Frag) (he : PE X e ta) (hb : attributeBase e f X.env (eval e X.env) = eval e X.env := by rfl) (hK : X.K = K := by rfl) : PE X (.Attribute e f pos) (ClX.tCVal K ta f) := hK ▸ ClX.pe_cval he hb
/-- nothing is let out -/
theorem none_ {P : Program} {w : World} (σ : L2.St) : PassesAt (L2.CX P w) X σ (fun _ _ _ => False) := fun _ _ _ _ _ _ ⟨_, _, _, _, _, _, _, _, _, _, _, _, z⟩ => z.elim
end
end Cl
/-! ### list comprehensions whose block lets an exception of a callee out -/
namespace CoR
open PySem PySem.Spec PyProof.Rows L2
/-- what the end of the block's run is to give; fr: the frame it runs in -/
def postX (M : Model) (A : Around) (E : Value → Shared → Prop) (use : Option (Value → Sem Unit)) (Q : Value → Shared → Prop) (acc : Value) (C : Addr) (fr : Option Addr) (r : Result) (s' : Shared) : Prop :=
  match r with
  | .ok f => compPost M A E use Q acc C (.ok f) s'
  | .error x => ∃ m, s'.heap.Ns C m ∧ ∀ h', Heap.SameBut C s'.heap h' → ∀ ce : Env, ce.locals = C → ce.frame = fr → wpAny M A (passOn "comprehension.variables-let-go" x ce : Sem Value) (fun _ _ => False) E { s' with heap := h' }
theorem comprehension_x {M : Model} {A : Around} {E : Value → Shared → Prop} {s : Shared} {env : Env} {e : Expr} {scope : Scope} {pos : Pos} {newAcc first : Sem Value} {g : Comprehension} {gs : List Comprehension} {cl : List (Str × Addr)} {use : Option (Value → Sem Unit)} {Q : Value → Shared → Prop}
    (hcl : clausesOf e = g :: gs) (hs : ∀ x, foldedSetIterable g.iter env x = pure x) (hclos : closureFor scope env = pure cl) (hkind : scope.kind = .function) (hnames : ∀ x ∈ scope.names, x.2 = .local → scope.names.lookup x.1 = some .local)
    (h : wpAny M A first (fun x s1 => wpAny M A (pyIter x) (fun it s2 => wpAny M A newAcc (fun acc s3 => wpAny M A (newFunctionEnv scope env.globals cl [] env.qual none .none (some env)) (fun ce s4 =>
        codeAny M A (.compStart e 0 it acc { ce with scope := relabel scope env }) (postX M A E use Q acc ce.locals ce.frame) s4) E s3) E s2) E s1) E s) :
    wpAny M A (comprehension e scope env pos newAcc false first use) Q E s := by
  unfold comprehension
  rw [hclos, hcl]
  refine wpAny_bind (wpAny_mono h (fun x s1 h1 => ?_) fun _ _ q => q)
  refine wpAny_bind (wpAny_standAt (wpAny_bind (wpAny_of_eq (hs x) ?_)))
  refine wpAny_bind (wpAny_holding (wpAny_mono h1 (fun it s2 h2 => ?_) fun _ _ q => q))
  refine wpAny_standIf (wpAny_bind (wpAny_mono h2 (fun acc s3 h3 => ?_) fun _ _ q => q))
  refine wpAny_bind (wpAny_pure (wpAny_bind (wpAny_mono h3 (fun ce s4 h4 => ?_) fun _ _ q => q)))
  dsimp only
  have loc : ∀ x ∈ (scope.names.filter fun x => (x.2 == .local || x.2 == .cell) && x.1 != (".0" : Str)), x.2 = .local → Env.kindOf { ce with scope := relabel scope env } x.1 = some .local :=
    fun x hx hl => lookup_relabel_local (hnames x (List.mem_filter.mp hx).1 hl)
  have v1 := fun x hx hl => loc x (List.mem_reverse.mp hx) hl
  refine wpAny_holding (wpAny_bind (wpAny_attempt (wpAny_holding (wpAny_run (codeAny_mono h4 fun r s' hr => ?_)))))
  cases r with
  | error x =>
    obtain ⟨m, hn, hr⟩ := hr
    exact wpAny_bind (wpAny_holding (wpAny_comp_letGo (cenv := { ce with scope := relabel scope env }) hkind _ s' m v1 hn fun h' m' _ hs' => wpAny_mono (hr h' hs' _ rfl rfl) (fun _ _ f => f.elim) fun _ _ y => y))
  | ok f =>
    cases use with
    | none =>
      obtain ⟨m, hn, hr⟩ := hr
      exact wpAny_bind (wpAny_holding (wpAny_comp_letGo (cenv := { ce with scope := relabel scope env }) hkind _ s' m v1 hn fun h' m' _ hs' => wpAny_pure (hr h' hs')))
    | some u =>
      refine wpAny_bind (wpAny_rule (wpAny_bind (wpAny_holding (wpAny_mono hr (fun _ s'' hr' => ?_) fun _ _ q => q))))
      obtain ⟨m, hn, hr'⟩ := hr'
      refine wpAny_bind (wpAny_comp_letGo (cenv := { ce with scope := relabel scope env }) hkind _ s'' m (fun x hx hl => ?_) hn fun h' m' _ hs' => wpAny_pure (hr' h' hs'))
      rcases List.mem_append.mp hx with h1 | h1
      · exact v1 x (List.mem_of_mem_drop h1) hl
      · exact v1 x (List.mem_of_mem_take h1) hl
/-! the way of an exception -/
theorem funFrames_but {base h h' : Heap} {C : Addr} (sb : Heap.SameBut C h h') : ∀ {l : List Env}, h.FunFrames base l → C ∉ frs l → h'.FunFrames base l
  | [], _, _ => trivial
  | env :: l, hl, hn => by
    obtain ⟨hk, ⟨L, o, hf, hb, ho, hd⟩, hr⟩ := hl
    have hm : ∀ b, b ∈ frs l → b ∈ frs (env :: l) := fun b hb => by
      obtain ⟨e, he, q⟩ := List.mem_filterMap.mp hb
      exact List.mem_filterMap.mpr ⟨e, List.mem_cons_of_mem _ he, q⟩
    have hL : L ≠ C := fun z => hn (z ▸ List.mem_filterMap.mpr ⟨env, List.mem_cons_self, hf⟩)
    exact ⟨hk, ⟨L, o, hf, hb, (sb.2 L hL).trans ho, hd⟩, funFrames_but sb hr fun z => hn (hm _ z)⟩
section
variable {X : Cx} {W : WX} {u : Value} {s' : Shared}
/-- an exception that this frame has noted -/
def HE (X : Cx) (W : WX) (u : Value) (s' : Shared) : Prop :=
  ∃ (a : Addr) (B : Heap) (sI : Shared) (σ : L2.St) (H : Hp) (cls : Value) (d : Option Addr), u = .ref a ∧ Inv X [] σ H sI ∧ (∀ b o, sI.heap.get? b = some o → b ∉ frs X.stack → B.get? b = some o) ∧ sI.heap.UpToSlots s'.heap ∧
    HandSPX.HeldZ B X.stack a (Zc cls d) X.env.locals s'.heap ∧ H a = none ∧ s'.os = sI.os ∧ AllBare s'.gens ∧ W cls d σ H
theorem noted (hs : X.stack = X.env :: X.outer) (hf : X.env.frame = some X.env.locals) {E1 : Value → Shared → Prop} (x : XE X W u s') :
    wpAny (model X.prog X.w) X.A (noteFrame u X.env) (fun _ s2 => HE X W u s2 ∧ s'.heap.UpToSlots s2.heap) E1 s' := by
  obtain ⟨a, B, sI, pins, σ, H, cls, d, rfl, I, nb, up, sky, na, os, ag, w⟩ := x
  have hfr : X.A.frames = some (X.env :: X.outer) := by rw [I.ok.frames, hs]
  have fin : ∀ h1, HandSPX.HeldZ B (X.env :: X.outer) a (Zc cls d) X.env.locals h1 → s'.heap.UpToSlots h1 → HE X W (.ref a) { s' with heap := h1 } ∧ s'.heap.UpToSlots h1 := fun h1 hh u1 =>
    ⟨⟨a, B, sI, σ, H, cls, d, rfl, Inv.unpinned (pins := []) (pl := pins) I, nb, up.trans u1, by rw [hs]; exact hh, na, os, ag, w⟩, u1⟩
  rw [hs] at sky
  rcases sky with ⟨hB, hn, hl, oe, vs, he, hz, hd, h1⟩ | fl | hh
  · exact HandSPX.look_newZ Zc.steady hfr hl hf he hB hn hd h1 hz fin
  · exact HandSPX.looks_onZ Zc.steady hfr hf fl fin
  · exact HandSPX.againZ hf hh.2.2.2 (fin s'.heap hh (Heap.UpToSlots.refl _))
/-- the block's variables are let go, the exception flies on -/
theorem goesOn {W' : WX} {C : Addr} {m : Str → Option Value} {h' : Heap} {ce : Env} (hW : ∀ cls d σ H, W' cls d σ H → W cls d σ H ∧ H C = none) (hx : HE X W' u s') (f : FpOk X [] (fun _ => none) C) (hnf : C ∉ frs X.stack) (hn : s'.heap.Ns C m) (sb : Heap.SameBut C s'.heap h') (hfr : ce.frame = some X.env.locals)
    (tk : Takes X W) : wpAny (model X.prog X.w) X.A (passOn "comprehension.variables-let-go" u ce : Sem Value) (fun _ _ => False) X.xe { s' with heap := h' } := by
  obtain ⟨a, B, sI, σ, H, cls, d, rfl, I, nb, up, hh, na, os, ag, w⟩ := hx
  obtain ⟨w, hHC⟩ := hW _ _ _ _ w
  obtain ⟨oC, es, ep, hoC, hdC, _⟩ := hn
  obtain ⟨B', b1, b2⟩ := restrict B fun b => decide (b ≠ C)
  obtain ⟨G, g1, g2⟩ := restrict sI.heap fun b => decide (b ≠ C)
  have inB : ∀ b o, B'.get? b = some o → b ≠ C ∧ B.get? b = some o := fun b o e => by
    by_cases hb : b = C
    · rw [b2 b (by simp [hb])] at e; cases e
    · rw [b1 b (by simp [hb])] at e; exact ⟨hb, e⟩
  have inG : ∀ b o, G.get? b = some o → b ≠ C ∧ sI.heap.get? b = some o := fun b o e => by
    by_cases hb : b = C
    · rw [g2 b (by simp [hb])] at e; cases e
    · rw [g1 b (by simp [hb])] at e; exact ⟨hb, e⟩
  obtain ⟨st, an, ff, oe, vs, T, oT, ts, he, hz, hd, h1, hnT, hTe, hT, hdT, h3⟩ := hh
  have aC : a ≠ C := fun z => by rw [z, hoC] at he; cases he; rw [hdC] at hd; cases hd
  have tC : T ≠ C := fun z => by rw [z, hoC] at hT; cases hT; rw [hdC] at hdT; cases hdT
  have nB : ∀ b, B.get? b = none → B'.get? b = none := fun b e => by
    cases q : B'.get? b with
    | none => rfl
    | some o => rw [(inB b o q).2] at e; cases e
  have hh' : HandSPX.HeldZ B' X.stack a (Zc cls d) X.env.locals h' := by
    refine ⟨fun b o e => ?_, nB a an, ?_, oe, vs, T, oT, ts, (sb.2 a aC).trans he, hz, hd, h1, nB T hnT, hTe, (sb.2 T tC).trans hT, hdT, h3⟩
    · obtain ⟨q1, q2⟩ := inB b o e
      exact (sb.2 b q1).trans (st b o q2)
    · exact funFrames_none (funFrames_but sb ff hnf) fun L hL => nB L (by
        obtain ⟨e, _⟩ := Heap.FunFrames.mem ff hL
        exact e)
  have IG : Inv X [] σ H { sI with heap := G } := I.turned (t' := sI.toks) (fun b o hb e => by rw [g1 b (by simp [hb])]; exact e) hHC f.2.1 f.2.2.2.1 f.2.2.2.2.1 f.2.2.2.2.2
  have upG : G.UpToSlots h' := fun b o e hno => by
    obtain ⟨q1, q2⟩ := inG b o e
    obtain ⟨sl, q⟩ := up b o q2 hno
    exact ⟨sl, (sb.2 b q1).trans q⟩
  unfold PySem.passOn
  refine wpAny_bind (wpAny_field ((sb.2 a aC).trans he) hd h1 ?_)
  rw [if_neg (show ¬ ((Value.ref T == Value.none) = true) from by simp)]
  refine wpAny_bind ?_
  rw [hfr]
  refine HandSPX.setFlight_onZ hh' fun h2 hh2 up2 => wpAny_throw (tk _ _ ?_)
  exact ⟨a, B', { sI with heap := G }, [], σ, H, cls, d, rfl, IG, fun b o e hb => by
    obtain ⟨q1, q2⟩ := inG b o e
    rw [b1 b (by simp [q1])]
    exact nb b o q2 hb, upG.trans up2, .inr (.inr hh2), na, os, ag, w⟩
/-- what a callee lets out in the block -/
def outB (Y : Cx) (E : XK) (u : Value) (s' : Shared) : Prop := ∃ (pins : List (Addr × Obj)) (σ : L2.St) (H : Hp) (s : Shared), Inv Y pins σ H s ∧ L2.CX Y.prog Y.w Y.stack H s E u s'
abbrev blkX (X : Cx) (E : XK) (s : Shared) (H : Hp) (scope : Scope) (ce : Env) (fp : List Addr) : Cx := (X.blk s H scope ce fp).wish (outB (X.blk s H scope ce fp) E)
/-- a call in the block lets out what the def's wish says -/
theorem inB {E : XK} {s : Shared} {H : Hp} {scope : Scope} {ce : Env} {fp : List Addr} (σ : L2.St) : PassesAt (L2.CX X.prog X.w) (blkX X E s H scope ce fp) σ E := fun pins H' s' _ _ I c => ⟨pins, σ, H', s', I.unwish, c⟩
theorem lc_coreX {E : XK} {pins : List (Addr × Obj)} {s : Shared} {σ : L2.St} {H : Hp} {Q : VK} {elt tg iter : Expr} {ifs : List Expr} {scope : Scope} {own : List (Str × Nat)} {pos pos' : Pos} {wi : TI} {g : TG} {tt : TT} {te : TE} {use : Option (Value → Sem Unit)} {Qf : Value → Shared → Prop}
    (hst : X.stack = X.env :: X.outer) (hfr : X.env.frame = some X.env.locals) (tk : Takes X (fun cls d _ H => E cls d H)) (hc : X.calm = true) (hN : X.N.Nodup) (I : Inv X pins σ H s) (hi : PI X tg iter wi) (ok : BlkOk X.N X.env.scope scope own)
    (hg : ∀ (s : Shared) (H : Hp) (C : Addr) (cl : List (Str × Addr)) (fp : List Addr), PG (blkX X E s H scope (compEnvC scope cl C X.env) fp) tg g) (ht : ∀ (s : Shared) (H : Hp) (C : Addr) (cl : List (Str × Addr)) (fp : List Addr), PTs (blkX X E s H scope (compEnvC scope cl C X.env) fp) ifs tt)
    (he : ∀ (s : Shared) (H : Hp) (C : Addr) (cl : List (Str × Addr)) (fp : List Addr), PE (blkX X E s H scope (compEnvC scope cl C X.env) fp) elt te) (hs : ∀ x, foldedSetIterable iter X.env x = pure x)
    (h : tLc wi g tt te (own.map (·.2)) σ H Q)
    (hRR : ∀ D C s' m H', Inv X pins σ H' s' → Q (.ref D) H' → s'.heap.Ns C m → FpOk X pins H' C → compPost (model X.prog X.w) X.A X.xe use Qf (.ref D) C (.ok .next) s') :
    wpAny (model X.prog X.w) X.A (comprehension (.ListComp elt [⟨tg, iter, ifs, 0⟩] scope pos) scope X.env pos' (newList []) false (eval iter X.env) use) Qf X.xe s := by
  have hfree : ∀ y ∈ scope.names, y.2 = .free → ∃ c, X.env.cells.lookup y.1 = some c := fun y hy e => (ok.free y hy e).elim (fun k => I.ok.has _ (.inl k)) fun k => I.ok.has _ (.inr k)
  refine comprehension_x (use := use) rfl hs (closure_ok hfree) ok.kind (fun y hy e => by rw [ok.uniq y hy, e]) (thn (hi.run pins s σ H _ I h) fun xv s1 hx => thn hx fun itv s2 h2 => ?_)
  obtain ⟨it, fp, tn, J, H2, e, I2, T, st2, f2, q⟩ := h2
  subst e
  refine wpAny_newObj_type (newEnv_comp ?_) (by show 0 ≤ sizeLine; decide)
  generalize hD : s2.heap.objs.size = D
  obtain ⟨Wn, ⟨m0, w0⟩, turn⟩ := q D (I2.hok.fresh (Nat.le_of_eq hD))
  generalize hs3 : ({ s2 with heap := s2.heap.push { cls := .type "list", data := .seq ([] : List Value).toArray } } : Shared) = s3
  have h3 : s3.heap = s2.heap.push { cls := .type "list", data := .seq ([] : List Value).toArray } := by rw [← hs3]
  have I3 : Inv X pins σ (upd H2 D (.lst [])) s3 := by
    rw [← hs3]
    exact I2.laid (t' := s2.toks) (fun b o e => Heap.get?_push_of_some _ e) (Nat.le_of_eq hD) ⟨Nat.zero_le _, [], 0, .nil, by rw [← hD]; exact Heap.get?_push_size _ rfl⟩
  have f3 : ∀ b ∈ fp, FpOk X pins (upd H2 D (.lst [])) b ∧ b < s3.heap.objs.size := fun b hb => by
    obtain ⟨o, e, _⟩ := T.obj _ _ st2 b hb
    have hlt := Heap.lt_size e
    refine ⟨⟨?_, (f2 b hb).2⟩, by rw [h3, Heap.size_push]; exact Nat.lt_succ_of_lt hlt⟩
    rw [upd_ne (by rw [← hD]; exact Nat.ne_of_lt hlt)]
    exact (f2 b hb).1
  have st3 : tn 0 s3.heap := T.keep _ _ _ st2 fun b _ o e => by rw [h3]; exact Heap.get?_push_of_some _ e
  have I4 := block_start I3 ok hN f3
  generalize hcl : cellsFrom (s3.heap.objs.size + 1) scope.names (cloFrom X.env.cells scope.names []) = cl at I4 ⊢
  have pg := hg s3 (upd H2 D (.lst [])) s3.heap.objs.size cl fp
  have pt := ht s3 (upd H2 D (.lst [])) s3.heap.objs.size cl fp
  have pe := he s3 (upd H2 D (.lst [])) s3.heap.objs.size cl fp
  show codeAny _ _ (.compStart (.ListComp elt [⟨tg, iter, ifs, 0⟩] scope pos) 0 (.ref it) (.ref D) (compEnvC scope cl s3.heap.objs.size X.env)) (postX (model X.prog X.w) X.A X.xe use Qf (.ref D) s3.heap.objs.size X.env.frame) { s3 with heap := pushCells (s3.heap.push { cls := .type "dict", data := .dict #[] }) scope.names }
  have nfp : ∀ b ∈ fp, (upd H2 D (.lst [])) b = none := fun b hb => (f3 b hb).1.1
  generalize hce : compEnvC scope cl s3.heap.objs.size X.env = ce at I4 pg pt pe ⊢
  have cL : ce.locals = s3.heap.objs.size := by subst hce; rfl
  have cF : ce.frame = X.env.frame := by subst hce; rfl
  generalize hH3 : upd H2 D (.lst []) = H3 at I3 I4 pg pt pe w0 nfp f3
  generalize hs4 : ({ s3 with heap := pushCells (s3.heap.push { cls := .type "dict", data := .dict #[] }) scope.names } : Shared) = s4 at I4 ⊢
  have st4 : tn 0 s4.heap := T.keep _ _ _ st3 fun b _ o e => by rw [← hs4]; exact pushCells_keeps _ _ _ _ (Heap.get?_push_of_some _ e)
  have stat : ∀ {σ' : L2.St} {H' : Hp} {s' : Shared}, Inv (X.blk s3 H3 scope ce fp) [] σ' H' s' → (∀ b ∈ fp, H' b = none) → ∀ b ∈ fp, FpOk (X.blk s3 H3 scope ce fp) [] H' b := fun {σ' H' s'} I' hn b hb =>
    ⟨hn b hb, (I'.ok.exf b hb).1, I'.ok.exfs b hb, .inl hb, fun x c e => (I'.ok.exf b hb).2 x c e, fun p hp => absurd (show p ∈ ([] : List (Addr × Obj)) ++ [] from hp) (by simp)⟩
  -- back in the def's context
  have back : ∀ {pB : List (Addr × Obj)} {σ' : L2.St} {H' : Hp} {s' : Shared}, Inv (X.blk s3 H3 scope ce fp) pB σ' H' s' → Inv X pins σ H' s' ∧ H' s3.heap.objs.size = none ∧ ∃ m, s'.heap.Ns s3.heap.objs.size m := fun {pB σ' H' s'} I' => by
    refine ⟨I3.call' (ch := fp) I'.os I'.base I'.hok I'.bare fun b hb => ⟨(f3 b hb).1.2.2.2.1, (f3 b hb).1.2.1, (f3 b hb).1.2.2.2.2.1, (f3 b hb).1.2.2.2.2.2⟩, ?_, ?_⟩
    · have z : H' ce.locals = none := I'.free
      rw [cL] at z; exact z
    · obtain ⟨m, hn, _⟩ := I'.loc
      have hn : s'.heap.Ns ce.locals m := hn
      rw [cL] at hn; exact ⟨m, hn⟩
  have fC : FpOk X [] (fun _ => none) s3.heap.objs.size := by
    obtain ⟨_, a2, a3, a4, a5, a6⟩ := I3.fpOk (H' := fun _ => none) (Nat.le_refl _) rfl
    exact ⟨rfl, a2, a3, a4, a5, fun p hp => a6 p (by rw [List.append_nil] at hp; exact List.mem_append_left _ hp)⟩
  have nfr : s3.heap.objs.size ∉ frs X.stack := fun z => by
    rcases List.mem_cons.mp (I3.stkSub _ z) with z | z
    · exact fC.2.1 z
    · exact fC.2.2.1 z
  -- what is let out
  have out : ∀ (u : Value) (s' : Shared), outB (X.blk s3 H3 scope ce fp) E u s' → notedBy (model X.prog X.w) X.A ce (fun e s' => postX (model X.prog X.w) X.A X.xe use Qf (.ref D) s3.heap.objs.size X.env.frame (.error e) s') u s' := by
    rintro u s' ⟨pB, σB, HB, sB, IB, c⟩
    obtain ⟨IX, hHC, m, hn⟩ := back IB
    obtain ⟨a, B, H', cls, d, rfl, fl, hok, ub, na, os, ag, hE⟩ := c
    have hn' := hn
    obtain ⟨oC, es, ep, hoC, hdC⟩ := hn'
    have hBC := ub.keep _ oC hoC hHC nfr
    have nsC : s'.heap.Ns s3.heap.objs.size m := ⟨oC, es, ep, fl.1 _ _ hBC, hdC⟩
    have x : XE X (fun cls d _ H => E cls d H ∧ H s3.heap.objs.size = none) (.ref a) s' :=
      XE.of_call (E := fun cls d H => E cls d H ∧ H s3.heap.objs.size = none) IX (fun _ _ _ h => h) ⟨a, B, H', cls, d, rfl, fl, hok, ub, na, os, ag, hE, ub.free _ _ hoC hHC⟩
    have e1 : noteFrame (.ref a) ce = noteFrame (.ref a) X.env := by subst hce; rfl
    show wpAny _ _ (noteFrame (.ref a) ce) _ _ s'
    rw [e1]
    refine wpAny_mono (noted hst hfr (E1 := fun _ _ => False) x) (fun _ s2 ⟨hx, up⟩ => ?_) fun _ _ z => z.elim
    have ns2 := up.ns nsC
    exact ⟨m, ns2, fun h' sb ce' _ hf' => goesOn (W := fun cls d _ H => E cls d H) (fun _ _ _ _ z => z) hx fC nfr ns2 sb (hf'.trans hfr) tk⟩
  have thnO : ∀ {α : Type} {t : Sem α} {Q1 Q2 : α → Shared → Prop} {s : Shared}, wpAny (model X.prog X.w) X.A t Q1 (outB (X.blk s3 H3 scope ce fp) E) s → (∀ a s, Q1 a s → Q2 a s) →
      wpAny (model X.prog X.w) X.A t Q2 (notedBy (model X.prog X.w) X.A ce (fun e s' => postX (model X.prog X.w) X.A X.xe use Qf (.ref D) s3.heap.objs.size X.env.frame (.error e) s')) s := fun h1 h2 => wpAny_mono h1 h2 out
  have loop : codeAny (model X.prog X.w) X.A (.compLoop (.ListComp elt [⟨tg, iter, ifs, 0⟩] scope pos) 0 (.ref it) (.ref D) ce) (postX (model X.prog X.w) X.A X.xe use Qf (.ref D) s3.heap.objs.size X.env.frame) s4 := by
    refine compLoop_any (fun n s' => ∃ i H', Inv (X.blk s3 H3 scope ce fp) [] (wipe σ (own.map (·.2))) H' s' ∧ tn i s'.heap ∧ (∀ b ∈ fp, H' b = none) ∧ Wn i n H') ?_ m0 ⟨0, H3, I4, st4, nfp, w0⟩
    rintro n s5 ⟨i, H5, I5, st5, n5, w5⟩
    rcases turn i n H5 w5 with ⟨stop, qq⟩ | ⟨go, Nx, hNx, step⟩
    · refine thnF (T.done (X.blk s3 H3 scope ce fp) rfl rfl rfl hc i [] s5 _ H5 (fun _ _ => False) I5 (stat I5 n5) st5 stop) fun r s6 ⟨hr, I6⟩ => ?_
      subst hr
      obtain ⟨I7, nC, m, hn⟩ := back I6
      exact hRR D s3.heap.objs.size s6 m H5 I7 qq hn (I3.fpOk (Nat.le_refl _) nC)
    · refine thnF (T.item (X.blk s3 H3 scope ce fp) rfl rfl rfl hc i [] s5 _ H5 (fun _ _ => False) I5 (stat I5 n5) st5 go) fun r s6 ⟨u, hr, h6⟩ => ?_
      subst hr
      refine thnF h6 fun _ s7 ⟨x, H7, I7, r7, y7, st7, n7⟩ => ?_
      have I7' := I7.pinned (stat I7 n7) (T.obj _ _ st7)
      refine thnO (pg.run _ s7 _ H7 x u _ (I7'.wish _) r7 (step x H7 y7)) fun _ s8 ⟨σ8, H8, I8, hw8, q8⟩ => ?_
      refine thnO (pt.run _ s8 σ8 H8 _ I8 q8) fun b s9 ⟨H9, I9, q9⟩ => ?_
      have fin : ∀ {s' : Shared} {H' : Hp}, Inv (blkX X E s3 H3 scope ce fp) ([] ++ pinsAt fp s7.heap) σ8 H' s' → Nx H' → ∃ m, m < n ∧ ∃ i H', Inv (X.blk s3 H3 scope ce fp) [] (wipe σ (own.map (·.2))) H' s' ∧ tn i s'.heap ∧ (∀ b ∈ fp, H' b = none) ∧ Wn i m H' := fun {s' H'} Iw nx => by
        have I' : Inv (X.blk s3 H3 scope ce fp) ([] ++ pinsAt fp s7.heap) σ8 H' s' := Iw.unwish
        obtain ⟨m', hm, w'⟩ := hNx H' nx
        have pin' : ∀ b ∈ fp, ∀ o, s7.heap.get? b = some o → s'.heap.get? b = some o ∧ H' b = none := fun b hb o e =>
          let z := I'.pin (b, o) (List.mem_append_right _ (List.mem_append_right _ (mem_pinsAt hb e)))
          ⟨z.1, z.2.1⟩
        have hl : (wipe σ (own.map (·.2))).length = σ8.length := by rw [← hw8, wipe_length]
        refine ⟨m', hm, i + 1, H', (I'.unpinned (pins := [])).weak hl (fun j v e => ?_), T.keep _ _ _ st7 fun b hb o e => (pin' b hb o e).1, fun b hb => ?_, w'⟩
        · rw [← hw8] at e
          exact (wipe_some e).1
        · obtain ⟨o, e, _⟩ := T.obj _ _ st7 b hb
          exact (pin' b hb o e).2
      cases b with
      | false =>
        simp only [Bool.false_eq_true, if_false] at q9 ⊢
        exact fin I9 q9
      | true =>
        simp only [if_true] at q9 ⊢
        refine thnO (pe.run _ s9 σ8 H9 _ I9 q9) fun z s10 ⟨yv, H10, I10, r10, acc, hD10, hz10, nx⟩ => ?_
        exact app_ok (X := blkX X E s3 H3 scope ce fp) I10 hD10 hz10 r10 fun s11 I11 => fin I11 nx
  exact codeAny_compStart_list loop (T.self X.A 0 _ _ _ st4 loop)
/-- as a value -/
theorem pe_lc {E : XK} {elt tg iter : Expr} {ifs : List Expr} {scope : Scope} {own : List (Str × Nat)} {pos : Pos} {wi : TI} {g : TG} {tt : TT} {te : TE} (hst : X.stack = X.env :: X.outer) (hfr : X.env.frame = some X.env.locals) (tk : Takes X (fun cls d _ H => E cls d H)) (hc : X.calm = true) (hN : X.N.Nodup) (hi : PI X tg iter wi) (ok : BlkOk X.N X.env.scope scope own)
    (hg : ∀ (s : Shared) (H : Hp) (C : Addr) (cl : List (Str × Addr)) (fp : List Addr), PG (blkX X E s H scope (compEnvC scope cl C X.env) fp) tg g) (ht : ∀ (s : Shared) (H : Hp) (C : Addr) (cl : List (Str × Addr)) (fp : List Addr), PTs (blkX X E s H scope (compEnvC scope cl C X.env) fp) ifs tt)
    (he : ∀ (s : Shared) (H : Hp) (C : Addr) (cl : List (Str × Addr)) (fp : List Addr), PE (blkX X E s H scope (compEnvC scope cl C X.env) fp) elt te) (hs : ∀ x, foldedSetIterable iter X.env x = pure x := by intro _; rfl) :
    PE X (.ListComp elt [⟨tg, iter, ifs, 0⟩] scope pos) (tLc wi g tt te (own.map (·.2))) := by
  refine ⟨fun pins s σ H Q I h => ?_⟩
  rw [eval_ListComp]
  refine lc_coreX hst hfr tk hc hN I hi ok hg ht he hs h fun D C s' m H' I' q hn f => ⟨m, hn, fun h'' sb => ?_⟩
  obtain ⟨f0, f1, f2, f3, f4, f5⟩ := f
  exact ⟨.ref D, H', I'.turned (t' := s'.toks) (fun b o hb e => (sb.2 b hb).trans e) f0 f1 f3 f4 f5, rfl, q⟩
end
end CoR
/-! ### enumerate(tuple); a walk over a list or a tuple -/
namespace EnB
open PySem PySem.Spec PyProof.Rows L2
section
theorem meets_new1 {v : Value} {o : Obj} {P : Heap → Prop} (B : Begins v o P) :
    Meets (Builtin.«enumerate.__new__» ⟨[.type "enumerate", v], []⟩) (fun _ R s => P s.heap ∧
      R (.ok (.ret (.ref (s.heap.push o).objs.size))) { s with heap := (s.heap.push o).push { cls := .type "enumerate", data := .fields #[.none, .bool false, .ref s.heap.objs.size, rawInt 0, .none, .none] } }) :=
  .of_wp fun prog w A R s h => by
    obtain ⟨hp, g, d, tk, os⟩ := s
    obtain ⟨h1, h⟩ := h
    have hsub := sub_enumerate
    have begins : ∀ {A' : Around} {E : Value → Shared → Prop} {Q : Value → Shared → Prop}, Q (.ref hp.objs.size) ⟨hp.push o, g, d, tk, os⟩ → wpAny (model prog w) A' (pyIter v) Q E ⟨hp, g, d, tk, os⟩ := fun q => B.iter prog w _ _ ⟨hp, g, d, tk, os⟩ _ h1 q
    wp_walk using begins
    refine wpAny_stack_any fun st => wpAny_pure ?_
    split
    · rename_i c _ _ _ _ _
      cases (c == Value.type "enumerate") <;> (wp_walk using begins; exact ⟨_, rfl, h⟩)
    · wp_walk using begins
      exact ⟨_, rfl, h⟩
theorem call_new1 {prog : Program} {w : World} {A : Around} {E : Value → Shared → Prop} {s : Shared} {v : Value} {o : Obj} {P : Heap → Prop} {Q : Value → Shared → Prop} (B : Begins v o P) (h1 : P s.heap)
    (h : ∀ h', IsEnum h' (s.heap.objs.size + 1) s.heap.objs.size 0 .none → h'.get? s.heap.objs.size = some o → (∀ b o, s.heap.get? b = some o → h'.get? b = some o) → Q (.ref (s.heap.objs.size + 1)) { s with heap := h' }) :
    wpAny (model prog w) A (call (.type "enumerate") [v]) Q E s := by
  refine callType_new F.called_enumerate (by decide) (F.typeCall_enumerate_1 _) (F.newCall_enumerate_1 _) (fun obj => F.args_object_init_2 obj _) F.entry_enumerate_new (meets_new1 B) ⟨h1, ?_⟩
  have sz : (s.heap.push o).objs.size = s.heap.objs.size + 1 := Heap.size_push ..
  show _ ∧ _
  rw [sz]
  have e := Heap.get?_push_size (s.heap.push o) (o := { cls := .type "enumerate", data := .fields #[.none, .bool false, .ref s.heap.objs.size, rawInt 0, .none, .none] }) rfl
  rw [sz] at e
  exact ⟨⟨_, e, rfl⟩, h _ e (Heap.get?_push_of_some _ (Heap.get?_push_size _ B.free)) fun b o x => Heap.get?_push_of_some _ (Heap.get?_push_of_some _ x)⟩
end
/-- the tuple at a, each item in a new pair -/
def IteT (K : PySem.W.Frag) (a : Addr) : It :=
  ⟨fun i H => ∃ (xs : List V) (x : V), SqT K H a xs ∧ xs[i]? = some x, fun i H v H' => ∃ T x, v = .ref T ∧ H T = none ∧ H' = upd H T (.tup [.int (i : Nat), x]) ∧ ∀ xs, SqT K H a xs → xs[i]? = some x, fun i H => ∃ xs : List V, SqT K H a xs ∧ xs.length ≤ i⟩
theorem turn_et {P : Program} {w : World} {K : PySem.W.Frag} {elts : List Expr} {kk : Nat} {tpos : Pos} (a e it : Addr) (hai : a ≠ it) :
    Turn P w K (.Tuple elts kk tpos) (IteT K a) [e, it] e (fun i h => (∃ old, IsEnum h e it ((i : Nat) : Int) old) ∧ h.IsTupleIter it a i ∧ e ≠ it ∧ e ≠ a) where
  mem := by simp
  obj := fun i h st b hb => by
    obtain ⟨⟨old, he⟩, ⟨o, ho, hc, hd⟩, _⟩ := st
    rcases (show b = e ∨ b = it by simpa using hb) with z | z
    · rw [z]; exact ⟨_, he, fun v q => nomatch q⟩
    · rw [z]; exact ⟨o, ho, fun v q => by rw [hd] at q; cases q⟩
  keep := fun i h h' st k => let ⟨⟨old, he⟩, hi, hne⟩ := st; ⟨⟨old, k e (by simp) _ he⟩, hi.at fun o q => k it (by simp) o q, hne⟩
  item := by
    intro X hP hw hK hc i pins s σ H E I hf st hg
    subst hP hw hK
    obtain ⟨⟨old, he⟩, hit, hne, hea⟩ := st
    obtain ⟨xs, x, hq, hx⟩ := hg
    obtain ⟨its, rv, p, hz⟩ := I.tuple hq
    obtain ⟨u, hu, ru⟩ := rv.get hx
    have hel : e < s.heap.objs.size := Heap.lt_size he
    have hil : it < s.heap.objs.size := by obtain ⟨_, q, _⟩ := hit; exact Heap.lt_size q
    have hlt : i < its.toArray.size := by
      rw [List.size_toArray]
      exact (List.getElem?_eq_some_iff.mp hu).1
    refine wpAny_pyNext_enum_itemC (Draws.tuple (A := X.A.in1) (I.ok.hd hc) it a hai its.toArray) he ⟨hit, p⟩ hlt hne (by simp [hne, hea]) fun y h' tk hy ho hs' hT hsz hk => ?_
    obtain rfl : y = u := by
      have hy' : its.toArray[i]? = some y := hy
      rw [List.getElem?_toArray, hu] at hy'
      exact (Option.some.inj hy').symm
    refine ⟨_, rfl, wpAny_letOwnedTupleGo_enum (s := { s with heap := h', toks := tk + 1 }) ho fun h'' he' sb => ?_⟩
    have hT2 : h''.get? s.heap.objs.size = some { cls := .type "tuple", data := .seq #[.int i tk, y] } := (sb.2 _ (Nat.ne_of_gt hel)).trans hT
    have new : ObjOk X.prog X.w (upd H s.heap.objs.size (.tup [.int (i : Nat), x])) h'' s.heap.objs.size (.tup [.int (i : Nat), x]) :=
      ⟨by show 2 ≤ sizeLine; decide, [.int i tk, y], .cons ⟨_, rfl⟩ (.cons ru .nil), ⟨_, hT2, rfl, _, rfl⟩⟩
    have I1 : Inv X pins σ (upd H s.heap.objs.size (.tup [.int (i : Nat), x])) { s with heap := h'', toks := tk + 1 } :=
      I.turnedNew (ch := [e, it]) (fun b ob hb q => (sb.2 b (fun z => hb (by simp [z]))).trans (hk b ob (fun z => hb (by simp [z])) (fun z => hb (by simp [z])) q)) hf (Nat.le_refl _) new
    refine ⟨.ref s.heap.objs.size, _, I1, rfl, ⟨_, x, rfl, I.hok.fresh (Nat.le_refl _), rfl, fun ys hy => by rw [I.tuple_inj hy hq]; exact hx⟩, ⟨⟨y, ?_⟩, hs'.1.at fun o q => (sb.2 it (Ne.symm hne)).trans q, hne, hea⟩, fun b hb => ?_⟩
    · rw [show ((i + 1 : Nat) : Int) = (i : Int) + 1 by omega]
      exact he'
    · have hb' : b < s.heap.objs.size := by
        rcases (show b = e ∨ b = it by simpa using hb) with z | z
        · rw [z]; exact hel
        · rw [z]; exact hil
      rw [upd_ne (Nat.ne_of_lt hb')]
      exact (hf b hb).1
  done := by
    intro X hP hw hK hc i pins s σ H E I hf st hg
    subst hP hw hK
    obtain ⟨⟨old, he⟩, hit, hne, hea⟩ := st
    obtain ⟨xs, hq, hx⟩ := hg
    obtain ⟨its, rv, p, hz⟩ := I.tuple hq
    obtain ⟨f0, f1, f2, f3, f4, f5⟩ := hf it (by simp)
    have hl := rv.length
    -- the walk's number is the tuple's length or beyond: only the end itself is drawn
    refine wpAny_pyNext_enum_endD (n := i) (P := fun _ _ => True) (fp := [it, a]) (St := fun j h => j = i ∧ h.IsTupleIter it a i ∧ h.IsTuple a its.toArray) ⟨fun _ _ st => let ⟨o, ho, _⟩ := st.2.1; ⟨o, ho⟩, fun _ _ _ st hk => ⟨st.1, st.2.1.at fun o e => hk it (by simp) o e, st.2.2.at fun o e => hk a (by simp) o e⟩,
      fun j s' Q' E' hj st _ => absurd st.1 (Nat.ne_of_lt hj), fun s' Q' E' st hE => PySem.wpAny_nextOf_tuple_end (A := X.A.in1) (I.ok.hd hc) st.2.1 st.2.2 (by simp; omega) hE⟩ he ⟨rfl, hit, p⟩ fun h' eb => ⟨rfl, I.turned (t' := s.toks) (fun b o hb q => eb b o hb q) f0 f1 f3 f4 f5⟩
  self := fun A i s Q E st h => let ⟨⟨_, he⟩, _⟩ := st; wpAny_pyIter_enum he h
def iEnumT (K : PySem.W.Frag) (ta : TA) : TI := fun σ H R => ta σ H fun vs H1 => ∃ a xs, vs = [.ref a] ∧ SqT K H1 a xs ∧ R (IteT K a) H1
theorem pi_et (K : PySem.W.Frag) {X : Cx} {e : Expr} {ta : TA} {p pos tpos : Pos} {elts : List Expr} {kk : Nat} (hg : Gl X "enumerate") (hm : X.mg "enumerate" = none) (ha : PA X [e] ta) (hs : starEach [e] X.env = [(false, eval e X.env)] := by rfl) (hK : X.K = K := by rfl) :
    PI X (.Tuple elts kk tpos) (.Call (.Name "enumerate" p) [e] [] pos) (iEnumT K ta) := by
  subst hK
  refine ⟨fun pins s σ H R I h => ?_⟩
  refine Call_ (ld_blt I hg hm boot_enumerate (PyProof.Rows.callWith_type1 (thn (ha.run pos pins s σ H _ I h) fun us s1 ⟨vs, H1, I1, r1, q1⟩ => ?_) hs rfl))
  obtain ⟨a, xs, ex, hq, q⟩ := q1
  subst ex
  cases r1 with
  | cons r rr =>
    cases rr
    cases r
    obtain ⟨its, rv, p', hz⟩ := I1.tuple hq
    have hal : a < s1.heap.objs.size := by obtain ⟨_, q, _⟩ := (show s1.heap.IsTuple a its.toArray from p'); exact Heap.lt_size q
    refine call_new1 (begins_tuple a its.toArray) (show s1.heap.IsTuple a its.toArray from p') fun h' he hit hk => wpAny_pyIter_enum he ?_
    have I2 : Inv X pins σ H1 { s1 with heap := h' } := I1.kept (t' := s1.toks) hk
    refine ⟨s1.heap.objs.size + 1, [s1.heap.objs.size + 1, s1.heap.objs.size], _, _, H1, rfl, I2, turn_et a (s1.heap.objs.size + 1) s1.heap.objs.size (Nat.ne_of_lt hal), ⟨⟨.none, he⟩, ⟨_, hit, rfl, rfl⟩, Nat.succ_ne_self _, fun z => ?_⟩, fun b hb => ?_, q⟩
    · rw [← z] at hal
      exact absurd hal (Nat.not_lt.mpr (Nat.le_succ _))
    have hle : s1.heap.objs.size ≤ b := by
      rcases (show b = s1.heap.objs.size + 1 ∨ b = s1.heap.objs.size by simpa using hb) with z | z
      · rw [z]; exact Nat.le_succ _
      · rw [z]; exact Nat.le_refl _
    exact I1.fpOk hle (I1.hok.fresh hle)
/-- one walk of two -/
theorem pi_or {X : Cx} {tg it : Expr} {w1 w2 : TI} (h1 : PI X tg it w1) (h2 : PI X tg it w2) : PI X tg it (fun σ H R => w1 σ H R ∨ w2 σ H R) :=
  ⟨fun pins s σ H R I h => h.elim (h1.run pins s σ H R I) (h2.run pins s σ H R I)⟩
theorem walk_et {K : PySem.W.Frag} {a : Addr} {xs : List V} : Walk (IteT K a) xs.length (fun H => SqT K H a xs) (YPair (fun i => some (.int (i : Nat))) (fun i => xs[i]?)) := by
  refine ⟨fun i _ hi q => ⟨xs, xs[i], q, by simp [hi]⟩, fun _ q => ⟨xs, q, Nat.le_refl _⟩, fun i H v H' _ q y => ?_⟩
  obtain ⟨T, x, h1, h2, h3, h4⟩ := y
  exact ⟨T, .int (i : Nat), x, h1, h2, h3, rfl, h4 xs q⟩
end EnB
namespace Pf
open PySem PySem.Spec PyProof.Rows L2
def top (i : Nat) : Stmt := PySem.Challenge.pw_rungbounds_k15_misread_and_pinned.main.body.getD i (.Pass ⟨0, 0, 0, 0⟩)
abbrev PP : Program := PySem.Challenge.pw_rungbounds_k15_misread_and_pinned
abbrev s_law_box : Stmt := top 9
theorem sc_law_box : FnScope ["_law_script", "_law_cell"] ["_law_script"] (defScope s_law_box) := ⟨rfl, rfl, rfl, by decide +kernel, rfl, by decide +kernel, by decide +kernel⟩
abbrev s_law_take : Stmt := top 10
theorem sc_law_take : FnScope ["_law_box_here", "_law_size", "_law_cell", "_law_digit"] ["_law_box_here", "_law_size"] (defScope s_law_take) := ⟨rfl, rfl, rfl, by decide +kernel, rfl, by decide +kernel, by decide +kernel⟩
abbrev s_TrialU_initU : Stmt := inClass (top 5) 0
theorem sc_TrialU_initU : FnScope ["self", "place", "height", "reached"] ["self", "place", "height", "reached"] (defScope s_TrialU_initU) := ⟨rfl, rfl, rfl, by decide +kernel, rfl, by decide +kernel, by decide +kernel⟩
abbrev s_Trial_agrees : Stmt := inClass (top 5) 5
theorem sc_Trial_agrees : FnScope ["self", "heights"] ["self", "heights"] (defScope s_Trial_agrees) := ⟨rfl, rfl, rfl, by decide +kernel, rfl, by decide +kernel, by decide +kernel⟩
abbrev s_misread_numbers : Stmt := top 6
theorem sc_misread_numbers : FnScope ["trials", "heights", "index", "trial"] ["trials", "heights"] (defScope s_misread_numbers) := ⟨rfl, rfl, rfl, by decide +kernel, rfl, by decide +kernel, by decide +kernel⟩
abbrev s_pinned : Stmt := top 7
theorem sc_pinned : FnScope ["place", "height"] ["place", "height"] (defScope s_pinned) := ⟨rfl, rfl, rfl, by decide +kernel, rfl, by decide +kernel, by decide +kernel⟩
abbrev s_law_numbers : Stmt := top 11
theorem sc_law_numbers : FnScope ["_law_row", "_law_due", "_law_k"] ["_law_row", "_law_due"] (defScope s_law_numbers) := ⟨rfl, rfl, rfl, by decide +kernel, rfl, by decide +kernel, by decide +kernel⟩
abbrev s_law_tries : Stmt := top 12
theorem sc_law_tries : FnScope ["_law_box_here", "_law_truth", "_law_count", "_law_tall", "_law_rows_here", "_law_k", "_law_place", "_law_height", "_law_wide", "_law_reached"] ["_law_box_here", "_law_truth", "_law_count", "_law_tall"] (defScope s_law_tries) := ⟨rfl, rfl, rfl, by decide +kernel, rfl, by decide +kernel, by decide +kernel⟩
abbrev s_law_trials : Stmt := top 13
theorem sc_law_trials : FnScope ["_law_rows_here", "_law_row"] ["_law_rows_here"] (defScope s_law_trials) := ⟨rfl, rfl, rfl, by decide +kernel, rfl, by decide +kernel, by decide +kernel⟩
abbrev s_law_rows : Stmt := top 15
theorem sc_law_rows : FnScope ["_law_trials_here", "_law_trial"] ["_law_trials_here"] (defScope s_law_rows) := ⟨rfl, rfl, rfl, by decide +kernel, rfl, by decide +kernel, by decide +kernel⟩
abbrev s_law_outcome : Stmt := top 14
theorem sc_law_outcome : FnScope ["_law_trials_here", "_law_heights", "e"] ["_law_trials_here", "_law_heights"] (defScope s_law_outcome) := ⟨rfl, rfl, rfl, by decide +kernel, rfl, by decide +kernel, by decide +kernel⟩
abbrev s_law : Stmt := top 16
theorem sc_law : FnScope ["_law_script", "_law_box_here", "_law_tall", "_law_k", "_law_heights", "_law_rows_here", "_law_strange", "_law_odd", "_law_trials_here", "_law_passed", "_law_told", "_law_due", "_law_place", "_law_pins", "_law_near"] ["_law_script"] (defScope s_law) := ⟨rfl, rfl, rfl, by decide +kernel, rfl, by decide +kernel, by decide +kernel⟩
/-- what the top has written -/
structure Txt (K : PySem.W.Frag) (mg : Str → Option Value) where
  fd_law_box : FuncData
  F_law_box : FunD K "_law_box" "_law_box" (defArgs s_law_box) (defBody s_law_box) (defScope s_law_box) [] [] (He.ga K "_law_box") fd_law_box
  fd_law_take : FuncData
  F_law_take : FunD K "_law_take" "_law_take" (defArgs s_law_take) (defBody s_law_take) (defScope s_law_take) [] [] (He.ga K "_law_take") fd_law_take
  fd_TrialU_initU : FuncData
  F_TrialU_initU : FunD K "__init__" "Trial.__init__" (defArgs s_TrialU_initU) (defBody s_TrialU_initU) (defScope s_TrialU_initU) [] [] (He.ma K (He.ga K "Trial") "__init__") fd_TrialU_initU
  fd_Trial_agrees : FuncData
  F_Trial_agrees : FunD K "agrees" "Trial.agrees" (defArgs s_Trial_agrees) (defBody s_Trial_agrees) (defScope s_Trial_agrees) [] [] (He.ma K (He.ga K "Trial") "agrees") fd_Trial_agrees
  fd_misread_numbers : FuncData
  F_misread_numbers : FunD K "misread_numbers" "misread_numbers" (defArgs s_misread_numbers) (defBody s_misread_numbers) (defScope s_misread_numbers) [] [] (He.ga K "misread_numbers") fd_misread_numbers
  fd_pinned : FuncData
  F_pinned : FunD K "pinned" "pinned" (defArgs s_pinned) (defBody s_pinned) (defScope s_pinned) [] [] (He.ga K "pinned") fd_pinned
  fd_law_numbers : FuncData
  F_law_numbers : FunD K "_law_numbers" "_law_numbers" (defArgs s_law_numbers) (defBody s_law_numbers) (defScope s_law_numbers) [] [] (He.ga K "_law_numbers") fd_law_numbers
  fd_law_tries : FuncData
  F_law_tries : FunD K "_law_tries" "_law_tries" (defArgs s_law_tries) (defBody s_law_tries) (defScope s_law_tries) [] [] (He.ga K "_law_tries") fd_law_tries
  fd_law_trials : FuncData
  F_law_trials : FunD K "_law_trials" "_law_trials" (defArgs s_law_trials) (defBody s_law_trials) (defScope s_law_trials) [] [] (He.ga K "_law_trials") fd_law_trials
  fd_law_rows : FuncData
  F_law_rows : FunD K "_law_rows" "_law_rows" (defArgs s_law_rows) (defBody s_law_rows) (defScope s_law_rows) [] [] (He.ga K "_law_rows") fd_law_rows
  fd_law_outcome : FuncData
  F_law_outcome : FunD K "_law_outcome" "_law_outcome" (defArgs s_law_outcome) (defBody s_law_outcome) (defScope s_law_outcome) [] [] (He.ga K "_law_outcome") fd_law_outcome
  fd_law : FuncData
  F_law : FunD K "law" "law" (defArgs s_law) (defBody s_law) (defScope s_law) [] [] (He.ga K "law") fd_law
  m_NoPlace : mg "NoPlace" = some (.ref (He.ga K "NoPlace"))
  m_Trial : mg "Trial" = some (.ref (He.ga K "Trial"))
  m__law_box : mg "_law_box" = some (.ref (He.ga K "_law_box"))
  m__law_numbers : mg "_law_numbers" = some (.ref (He.ga K "_law_numbers"))
  m__law_outcome : mg "_law_outcome" = some (.ref (He.ga K "_law_outcome"))
  m__law_rows : mg "_law_rows" = some (.ref (He.ga K "_law_rows"))
  m__law_take : mg "_law_take" = some (.ref (He.ga K "_law_take"))
  m__law_trials : mg "_law_trials" = some (.ref (He.ga K "_law_trials"))
  m__law_tries : mg "_law_tries" = some (.ref (He.ga K "_law_tries"))
  m_law : mg "law" = some (.ref (He.ga K "law"))
  m_misread_numbers : mg "misread_numbers" = some (.ref (He.ga K "misread_numbers"))
  m_pinned : mg "pinned" = some (.ref (He.ga K "pinned"))
  n_bool : mg "bool" = none
  n_enumerate : mg "enumerate" = none
  n_int : mg "int" = none
  n_isinstance : mg "isinstance" = none
  n_len : mg "len" = none
  n_list : mg "list" = none
  n_range : mg "range" = none
  n_super : mg "super" = none
  n_tuple : mg "tuple" = none
  cl_Trial : Cls K (He.ga K "Trial")
  na_Trial_height : NoAttr K (He.ga K "Trial") "height"
  na_Trial_place : NoAttr K (He.ga K "Trial") "place"
  na_Trial_reached : NoAttr K (He.ga K "Trial") "reached"
  me_Trial_agrees : Meth K (He.ga K "Trial") "agrees" (He.ma K (He.ga K "Trial") "agrees")
  mk_Trial : Mk K (He.ga K "Trial") (He.ma K (He.ga K "Trial") "__init__")
  xm_NoPlace_NoPlace : PySem.W.exmOne K (.ref (He.ga K "NoPlace")) (.ref (He.ga K "NoPlace")) = some true
  er_NoPlace : PySem.ErrX.ErrTxt PP K (He.ga K "NoPlace") "place" "place"
section
variable {w : World} {K : PySem.W.Frag} {mg : Str → Option Value} {base : Heap}
theorem b_TrialU_initU_4 (T : Txt K mg) : Vals [] ([] : List Value) ∧ Binds K T.fd_TrialU_initU ["self", "place", "height", "reached"] [] := ⟨.nil, FunD.bindsN T.F_TrialU_initU fun _ _ _ _ _ _ us hl => match us, hl with | [_, _, _, _], _ => rfl⟩
theorem b_Trial_agrees_2 (T : Txt K mg) : Vals [] ([] : List Value) ∧ Binds K T.fd_Trial_agrees ["self", "heights"] [] := ⟨.nil, FunD.bindsN T.F_Trial_agrees fun _ _ _ _ _ _ us hl => match us, hl with | [_, _], _ => rfl⟩
theorem b_law_box_1 (T : Txt K mg) : Vals [] ([] : List Value) ∧ Binds K T.fd_law_box ["_law_script"] [] := ⟨.nil, FunD.bindsN T.F_law_box fun _ _ _ _ _ _ us hl => match us, hl with | [_], _ => rfl⟩
theorem b_law_numbers_2 (T : Txt K mg) : Vals [] ([] : List Value) ∧ Binds K T.fd_law_numbers ["_law_row", "_law_due"] [] := ⟨.nil, FunD.bindsN T.F_law_numbers fun _ _ _ _ _ _ us hl => match us, hl with | [_, _], _ => rfl⟩
theorem b_law_outcome_2 (T : Txt K mg) : Vals [] ([] : List Value) ∧ Binds K T.fd_law_outcome ["_law_trials_here", "_law_heights"] [] := ⟨.nil, FunD.bindsN T.F_law_outcome fun _ _ _ _ _ _ us hl => match us, hl with | [_, _], _ => rfl⟩
theorem b_law_rows_1 (T : Txt K mg) : Vals [] ([] : List Value) ∧ Binds K T.fd_law_rows ["_law_trials_here"] [] := ⟨.nil, FunD.bindsN T.F_law_rows fun _ _ _ _ _ _ us hl => match us, hl with | [_], _ => rfl⟩
theorem b_law_take_2 (T : Txt K mg) : Vals [] ([] : List Value) ∧ Binds K T.fd_law_take ["_law_box_here", "_law_size"] [] := ⟨.nil, FunD.bindsN T.F_law_take fun _ _ _ _ _ _ us hl => match us, hl with | [_, _], _ => rfl⟩
theorem b_law_trials_1 (T : Txt K mg) : Vals [] ([] : List Value) ∧ Binds K T.fd_law_trials ["_law_rows_here"] [] := ⟨.nil, FunD.bindsN T.F_law_trials fun _ _ _ _ _ _ us hl => match us, hl with | [_], _ => rfl⟩
theorem b_law_tries_4 (T : Txt K mg) : Vals [] ([] : List Value) ∧ Binds K T.fd_law_tries ["_law_box_here", "_law_truth", "_law_count", "_law_tall"] [] := ⟨.nil, FunD.bindsN T.F_law_tries fun _ _ _ _ _ _ us hl => match us, hl with | [_, _, _, _], _ => rfl⟩
theorem b_misread_numbers_2 (T : Txt K mg) : Vals [] ([] : List Value) ∧ Binds K T.fd_misread_numbers ["trials", "heights"] [] := ⟨.nil, FunD.bindsN T.F_misread_numbers fun _ _ _ _ _ _ us hl => match us, hl with | [_, _], _ => rfl⟩
theorem b_pinned_2 (T : Txt K mg) : Vals [] ([] : List Value) ∧ Binds K T.fd_pinned ["place", "height"] [] := ⟨.nil, FunD.bindsN T.F_pinned fun _ _ _ _ _ _ us hl => match us, hl with | [_, _], _ => rfl⟩
/-! ### the law's box of numbers -/
/-- a box at b, its cells at c -/
def Bx (H : Hp) (b c : Addr) : Prop := ∃ (cs : List Int) (i r s : Int), H b = some (.lst [.ref c, .int i, .int r, .int s]) ∧ H c = some (.lst (cs.map V.int)) ∧ cs.length ≤ 63 ∧ 0 ≤ i ∧ 0 ≤ r ∧ 0 ≤ s ∧ s < 2147483647
theorem Bx.ne {H : Hp} {b c : Addr} (h : Bx H b c) : c ≠ b := by
  obtain ⟨cs, i, r, s, h1, h2, _⟩ := h
  refine ne_of h2 h1 fun z => ?_
  have z2 : cs.map V.int = [.ref c, .int i, .int r, .int s] := by injection z
  cases cs with
  | nil => cases z2
  | cons a l => cases z2
theorem map_get {ns : List Int} {i : Nat} {y : V} (hi : (ns.map V.int)[i]? = some y) : ∃ z, ns[i]? = some z ∧ y = V.int z := by
  rw [List.getElem?_map] at hi
  cases e : ns[i]? with
  | none =>
    rw [e] at hi
    cases hi
  | some z =>
    rw [e] at hi
    exact ⟨z, rfl, (Option.some.inj hi).symm⟩
theorem take_more {α : Type} : ∀ {l : List α} {i : Nat} {x : α}, l[i]? = some x → l.take (i + 1) = l.take i ++ [x]
  | [], i, x, h => by simp at h
  | a :: l, 0, x, h => by
    have e : a = x := Option.some.inj h
    subst e
    rfl
  | a :: l, i + 1, x, h => by
    have ih := take_more (l := l) (i := i) (x := x) h
    show a :: l.take (i + 1) = a :: l.take i ++ [x]
    rw [ih]
    rfl
theorem cut63 (ns : List Int) : ∃ ms : List Int, cutV (ns.map V.int) none (some 63) = ms.map V.int ∧ ms.length ≤ 63 := by
  refine ⟨(ns.drop (HT.sIx (ns.map V.int).length 0 none)).take (HT.sIx (ns.map V.int).length (ns.map V.int).length (some 63) - HT.sIx (ns.map V.int).length 0 none), ?_, ?_⟩
  · unfold cutV
    rw [List.map_take, List.map_drop]
  · rw [List.length_take]
    have e : HT.sIx (ns.map V.int).length (ns.map V.int).length (some 63) ≤ 63 := by
      unfold HT.sIx
      simp only []
      split <;> omega
    omega
def sp_law_box (K : PySem.W.Frag) : Sp := fun vs H Q _ => ∃ (a : Addr) (ns : List Int), vs = [.ref a] ∧ SqL K H a (ns.map V.int) ∧ ∀ (H' : Hp) (b c : Addr), Same H H' → H b = none → H c = none → Bx H' b c → Q (.ref b) H'
theorem ok_law_box (T : Txt K mg) : FnOk PP w K mg base (L2.CX PP w) 1 (He.ga K "_law_box") T.fd_law_box ["_law_script"] (sp_law_box K) := by
  refine T.F_law_box.ok sc_law_box (fun vs H Q E h => ?_) (fun cdv A outer s H vs Q E hr h => ?_)
  · obtain ⟨a, ns, rfl, _⟩ := h
    rfl
  · obtain ⟨a, ns, rfl, hS, k⟩ := h
    refine ⟨_, (pss_one (ps_ret (pe_lst (pa_cons (pe_lc (own := [("_law_cell", 1)]) rfl sc_law_box.nd (Cl.piL K (pe_slice (Cl.slL K) (pv 0) po_none (po_some pe_int))) (blkOk_by (N := ["_law_script", "_law_cell"]) (sc := defScope s_law_box) (by decide +kernel)) (fun _ _ _ _ _ => (pg_name (i := 1) sc_law_box.nd rfl (by first | exact Or.inl rfl | exact Or.inr rfl))) (fun _ _ _ _ _ => pts_nil) (fun _ _ _ _ _ => (pe_callTy (T := "int") Cl.int1 (by rfl) T.n_int (by decide +kernel) (pa_cons (pv 1) pa_nil)))) (pa_cons pe_int (pa_cons pe_int (pa_cons pe_int pa_nil))))))), ?_⟩
    refine ⟨_, rfl, 63, rfl, a, _, rfl, hS, fun p hp => ?_⟩
    obtain ⟨ms, em, hm⟩ := cut63 ns
    rw [em]
    refine ⟨p, rfl, ⟨_, SqL.of upd_same⟩, fun D hD => ?_⟩
    have hDp : D ≠ p := fun z => by
      rw [z, upd_same] at hD
      cases hD
    have hD0 : H D = none := by
      rw [upd_ne hDp] at hD
      exact hD
    have hSq : ∀ H', H' p = some (.lst (ms.map V.int)) → SqL K H' p (ms.map V.int) := fun H' z => SqL.of z
    refine lc_list (K := K) (a := p) (xs := ms.map V.int) (fun i H' => H' D = some (.lst ((ms.take i).map V.int)) ∧ H' p = some (.lst (ms.map V.int)) ∧ Same H H') ⟨upd_same, ?_, ?_⟩ (fun i H' _ z => hSq H' z.2.1) ?_ ?_
    · rw [upd_ne (Ne.symm hDp), upd_same]
    · intro x o e
      rw [upd_ne (ne_of_none e hD0), upd_ne (ne_of_none e hp)]
      exact e
    · rintro i x H' hi ⟨h1, h2, h3⟩
      obtain ⟨z, hz, rfl⟩ := map_get hi
      refine ⟨rfl, ?_⟩
      refine ⟨_, rfl, z, rfl, _, h1, ?_, ?_, ?_, ?_⟩
      · rw [List.length_map, List.length_take, sizeLine_eq]
        omega
      · rw [upd_same, take_more hz, List.map_append]
        rfl
      · rw [upd_ne (Ne.symm hDp)]
        exact h2
      · intro x o e
        rw [upd_ne (ne_of_none e hD0)]
        exact h3 x o e
    · rintro H' ⟨h1, h2, h3⟩
      rw [List.length_map, List.take_length] at h1
      refine ⟨by show 4 ≤ sizeLine; decide, fun b hb => ?_⟩
      refine k _ b D (fun x o e => ?_) (h3.free hb) hD0 ⟨ms, 0, 0, 0, upd_same, ?_, hm, by decide, by decide, by decide, by decide⟩
      · rw [upd_ne (ne_of_none (h3 x o e) hb)]
        exact h3 x o e
      · rw [upd_ne (ne_of_none h1 hb)]
        exact h1
theorem upd_id {H : Hp} {b : Addr} {o : HO} (h : H b = some o) : upd H b o = H := by
  funext a
  by_cases e : a = b
  · rw [e, upd_same, h]
  · rw [upd_ne e]
theorem at_some {cs : List Int} {i : Int} (h0 : 0 ≤ i) (h1 : i < (cs.length : Int)) : ∃ z, atI (cs.map V.int) i = some (V.int z) := by
  have hj : i.toNat < cs.length := by omega
  refine ⟨cs[i.toNat], ?_⟩
  have e := atI_nat (xs := cs.map V.int) (j := i.toNat) (v := V.int cs[i.toNat]) (by rw [List.getElem?_map, List.getElem?_eq_getElem hj]; rfl)
  rw [Int.toNat_of_nonneg h0] at e
  exact e
def sp_law_take : Sp := fun vs H Q _ => ∃ (b c : Addr) (n : Int), vs = [.ref b, .int n] ∧ Bx H b c ∧ 0 < n ∧ n.natAbs < 2 ^ 9000 ∧ ∀ (k : Int) (o : HO), 0 ≤ k → k < n → Bx (upd H b o) b c → Q (.int k) (upd H b o)
theorem ok_law_take (T : Txt K mg) : FnOk PP w K mg base (L2.CX PP w) 1 (He.ga K "_law_take") T.fd_law_take ["_law_box_here", "_law_size"] sp_law_take := by
  refine T.F_law_take.ok sc_law_take (fun vs H Q E h => ?_) (fun cdv A outer s H vs Q E hr h => ?_)
  · obtain ⟨b, c, n, rfl, _⟩ := h
    rfl
  · obtain ⟨b, c, n, rfl, hB, hn, hN, k⟩ := h
    have ne := hB.ne
    obtain ⟨cs, i, r, u, hb, hc, hl, hi, hrr, hu, hv⟩ := id hB
    refine ⟨_, (Evl.pss_cut (ps_if (PW.pt (pw_and (pt_cmpR op_lt (pe_ix (Cl.ixL K) (pv 0) pe_int (fun _ _ => rfl)) pe_int (nomark _)) (pw_and1 (pt_cmpR op_lt (pe_ix (Cl.ixL K) (pv 0) pe_int (fun _ _ => rfl)) (pe_callB (id := "len") (Cl.len K) (by rfl) T.n_len (by decide +kernel) (pa_cons (pe_ix (Cl.ixL K) (pv 0) pe_int (fun _ _ => rfl)) pa_nil)) (nomark _)))))
      (pss_cons (ps_set (i := 2) sc_law_take.nd rfl (by first | exact Or.inl rfl | exact Or.inr rfl) (pe_ix (Cl.ixL K) (pe_ix (Cl.ixL K) (pv 0) pe_int (fun _ _ => rfl)) (pe_ix (Cl.ixL K) (pv 0) pe_int (fun _ _ => rfl)) (fun _ _ => rfl)))
      (pss_cons (ps_asg (pe_op op_add (pe_ix (Cl.ixL K) (pv 0) pe_int (fun _ _ => rfl)) pe_int) (pg_sub (pv 0) pe_int set_list))
      (pss_one (ps_if (pt_cmpR op_ge (pv 2) (pe_op op_pow pe_int pe_int) (nomark _))
      (pss_one (ps_asg (pe_op op_sub (pv 2) (pe_op op_pow pe_int pe_int)) (pg_sub (pv 0) pe_int set_list)))
      (pss_one (ps_asg (pe_op op_mod (pe_callTy (T := "int") Cl.int1 (by rfl) T.n_int (by decide +kernel) (pa_cons (pe_op op_add (pe_op op_add (pe_op op_mul (pe_ix (Cl.ixL K) (pv 0) pe_int (fun _ _ => rfl)) pe_int) (pe_op op_mul (pv 2) pe_int)) pe_int) pa_nil)) pe_int) (pg_sub (pv 0) pe_int set_list)))))))
      pss_nil)
      (pss_cons (ps_if (pt_cmpR op_gt (pe_ix (Cl.ixL K) (pv 0) pe_int (fun _ _ => rfl)) pe_int (nomark _))
      (pss_cons (ps_set (i := 3) sc_law_take.nd rfl (by first | exact Or.inl rfl | exact Or.inr rfl) (pe_op op_mod (pe_callTy (T := "int") Cl.int1 (by rfl) T.n_int (by decide +kernel) (pa_cons (pe_ix (Cl.ixL K) (pv 0) pe_int (fun _ _ => rfl)) pa_nil)) (pv 1)))
      (pss_cons (ps_asg (pe_op op_fdivW (pe_ix (Cl.ixL K) (pv 0) pe_int (fun _ _ => rfl)) (pv 1)) (pg_sub (pv 0) pe_int set_list))
      (pss_one (ps_ret (pv 3)))))
      pss_nil)
      (pss_cons (ps_asg (pe_op op_mod (pe_callTy (T := "int") Cl.int1 (by rfl) T.n_int (by decide +kernel) (pa_cons (pe_op op_mul (pe_ix (Cl.ixL K) (pv 0) pe_int (fun _ _ => rfl)) pe_int) pa_nil)) pe_int) (pg_sub (pv 0) pe_int set_list))
      (pss_one (ps_ret (pe_op op_mod (pe_callTy (T := "int") Cl.int1 (by rfl) T.n_int (by decide +kernel) (pa_cons (pe_op op_fdivW (pe_ix (Cl.ixL K) (pv 0) pe_int (fun _ _ => rfl)) pe_int) pa_nil)) (pv 1))))))), ?_⟩
    refine ⟨fun σ' H' => ∃ (v : Option V) (o : HO), σ' = [some (.ref b), some (.int n), v, none] ∧ H' = upd H b o ∧ Bx H' b c, ?_, ?_⟩
    · have no : ∃ (v : Option V) (o : HO), ([some (.ref b), some (.int n), none, none] : L2.St) = [some (.ref b), some (.int n), v, none] ∧ H = upd H b o ∧ Bx H b c := ⟨none, _, rfl, (upd_id hb).symm, hB⟩
      refine ⟨_, rfl, _, _, _, _, rfl, rfl, SqL.of hb, rfl, _, _, rfl, rfl, _, rfl, ?_⟩
      refine ite2 (fun c1 => ?_) (fun c1 => ?_)
      · refine ⟨_, rfl, _, _, _, _, rfl, rfl, SqL.of hb, rfl, _, rfl, _, _, _, _, rfl, rfl, SqL.of hb, rfl, c, _, rfl, .inl (SqL.of hc), _, _, rfl, rfl, _, rfl, ?_⟩
        refine ite2 (fun c2 => ?_) (fun c2 => ?_)
        · have c2' := of_decide_eq_true c2
          rw [List.length_map] at c2'
          obtain ⟨z, hz⟩ := at_some hi c2'
          refine ⟨_, rfl, _, _, _, _, rfl, rfl, SqL.of hb, rfl, _, rfl, _, _, _, _, rfl, rfl, SqL.of hb, rfl, c, _, i, .int z, rfl, rfl, SqL.of hc, hz, ?_⟩
          refine ⟨_, rfl, _, _, _, _, rfl, rfl, SqL.of hb, rfl, _, _, rfl, rfl, _, rfl, b, _, _, 1, rfl, rfl, hb, rfl, ?_⟩
          refine ⟨_, rfl, 10, 18, rfl, rfl, ⟨by decide, by decide, by decide⟩, _, _, rfl, rfl, _, rfl, ?_⟩
          refine ite2 (fun c3 => ?_) (fun c3 => ?_)
          · have c3' := of_decide_eq_true c3
            refine ⟨_, rfl, 10, 18, rfl, rfl, ⟨by decide, by decide, by decide⟩, _, _, rfl, rfl, _, rfl, b, _, _, 2, rfl, rfl, upd_same, rfl, ?_⟩
            refine ⟨_, _, rfl, upd_upd, cs, i + 1, z - 10 ^ 18, u, by rw [upd_upd, upd_same]; rfl, by rw [upd_upd, upd_ne ne]; exact hc, hl, by omega, ?_, hu, hv⟩
            have c4 : (10 : Int) ^ (18 : Int).toNat ≤ z := c3'
            have e : (18 : Int).toNat = 18 := rfl
            rw [e] at c4
            omega
          · refine ⟨_, rfl, _, _, _, _, rfl, rfl, SqL.of upd_same, rfl, _, _, rfl, rfl, .inr ⟨by decide, by decide⟩, _, rfl, _, _, rfl, rfl, .inr ⟨by decide, by decide⟩, _, _, rfl, rfl, _, _, rfl, rfl, _, rfl, _, _, rfl, rfl, (by show (0 : Int) < 2147483647; decide), _, rfl, b, _, _, 3, rfl, rfl, upd_same, rfl, ?_⟩
            exact ⟨_, _, rfl, upd_upd, cs, i + 1, r, _, by rw [upd_upd, upd_same]; rfl, by rw [upd_upd, upd_ne ne]; exact hc, hl, by omega, hrr, Int.emod_nonneg _ (by decide), Int.emod_lt_of_pos _ (by decide)⟩
        · exact no
      · exact no
    · rintro σ' H' ⟨v, o, rfl, rfl, hB'⟩
      obtain ⟨cs, i, r, u, hb, hc, hl, hi, hrr, hu, hv⟩ := id hB'
      refine ⟨_, rfl, _, _, _, _, rfl, rfl, SqL.of hb, rfl, _, _, rfl, rfl, _, rfl, ?_⟩
      refine ite2 (fun c1 => ?_) (fun c1 => ?_)
      · refine ⟨_, rfl, _, _, _, _, rfl, rfl, SqL.of hb, rfl, _, rfl, _, rfl, _, _, rfl, rfl, hn, ?_⟩
        refine ⟨_, rfl, _, _, _, _, rfl, rfl, SqL.of hb, rfl, _, rfl, _, _, rfl, rfl, wide_div hn hN (by decide) (by decide), _, rfl, b, _, _, 2, rfl, rfl, hb, rfl, ?_⟩
        refine ⟨_, rfl, ?_⟩
        show Q (.int (r % n)) (upd (upd H b o) b _)
        rw [upd_upd]
        refine k _ _ (Int.emod_nonneg _ (by omega)) (Int.emod_lt_of_pos _ hn) ⟨cs, i, r / n, u, upd_same, ?_, hl, hi, Int.ediv_nonneg hrr (by omega), hu, hv⟩
        rw [upd_ne ne] at hc ⊢
        exact hc
      · refine ⟨_, rfl, _, _, _, _, rfl, rfl, SqL.of hb, rfl, _, _, rfl, rfl, .inr ⟨by decide, by decide⟩, _, rfl, _, _, rfl, rfl, (by show (0 : Int) < 2147483647; decide), _, rfl, b, _, _, 3, rfl, rfl, hb, rfl, ?_⟩
        refine ⟨_, rfl, _, _, _, _, rfl, rfl, SqL.of upd_same, rfl, _, _, rfl, rfl, wide_div (b := 30) (by decide) (by decide) (by decide) (by decide), _, rfl, _, rfl, _, _, rfl, rfl, hn, ?_⟩
        rw [upd_upd]
        refine k _ _ (Int.emod_nonneg _ (by omega)) (Int.emod_lt_of_pos _ hn) ⟨cs, i, r, _, upd_same, ?_, hl, hi, hrr, Int.emod_nonneg _ (by decide), Int.emod_lt_of_pos _ (by decide)⟩
        rw [upd_ne ne] at hc ⊢
        exact hc
theorem Bx.new {H : Hp} {b c p : Addr} {o : HO} (h : Bx H b c) (hp : H p = none) : Bx (upd H p o) b c := by
  obtain ⟨cs, i, r, s, h1, h2, h3⟩ := h
  exact ⟨cs, i, r, s, by rw [upd_ne (ne_of_none h1 hp)]; exact h1, by rw [upd_ne (ne_of_none h2 hp)]; exact h2, h3⟩
theorem Bx.ref {H : Hp} {b c : Addr} (h : Bx H b c) : ∃ o, H b = some o := by
  obtain ⟨cs, i, r, s, h1, _⟩ := h
  exact ⟨_, h1⟩
theorem Bx.same {H H' : Hp} {b c : Addr} (h : Bx H b c) (s : Same H H') : Bx H' b c := by
  obtain ⟨cs, i, r, u, h1, h2, h3⟩ := h
  exact ⟨cs, i, r, u, s _ _ h1, s _ _ h2, h3⟩
/-- a draw, where the box's own list alone has changed since G -/
theorem take_go {G : Hp} {b c : Addr} {o : HO} {n : Int} {Q : VK} {E : XK} (B : Bx (upd G b o) b c) (h0 : 0 < n) (hN : n.natAbs < 2 ^ 9000)
    (k : ∀ (k : Int) (o' : HO), 0 ≤ k → k < n → Bx (upd G b o') b c → Q (.int k) (upd G b o')) : sp_law_take [.ref b, .int n] (upd G b o) Q E :=
  ⟨b, c, n, rfl, B, h0, hN, fun z o' z0 z1 B' => by
    rw [upd_upd] at B' ⊢
    exact k z o' z0 z1 B'⟩
theorem take_in {G : Hp} {b c : Addr} {n : Int} {Q : VK} {E : XK} (B : Bx G b c) (h0 : 0 < n) (hN : n.natAbs < 2 ^ 9000)
    (k : ∀ (k : Int) (o' : HO), 0 ≤ k → k < n → Bx (upd G b o') b c → Q (.int k) (upd G b o')) : sp_law_take [.ref b, .int n] G Q E :=
  ⟨b, c, n, rfl, B, h0, hN, k⟩
/-- the box, and beside it a list of the law's own at r -/
structure BL (H : Hp) (b c r : Addr) (xs : List V) : Prop where
  bx : Bx H b c
  at_ : H r = some (.lst xs)
  rb : r ≠ b
  rc : r ≠ c
theorem BL.take {H : Hp} {b c r : Addr} {xs : List V} {o : HO} (h : BL H b c r xs) (B : Bx (upd H b o) b c) : BL (upd H b o) b c r xs := ⟨B, by rw [upd_ne h.rb]; exact h.at_, h.rb, h.rc⟩
theorem BL.new {H : Hp} {b c r p : Addr} {xs : List V} {o : HO} (h : BL H b c r xs) (hp : H p = none) : BL (upd H p o) b c r xs := ⟨h.bx.new hp, by rw [upd_ne (ne_of_none h.at_ hp)]; exact h.at_, h.rb, h.rc⟩
theorem BL.set {H : Hp} {b c r : Addr} {xs ys : List V} (h : BL H b c r xs) : BL (upd H r (.lst ys)) b c r ys := by
  obtain ⟨cs, i, r', s, h1, h2, h3⟩ := h.bx
  exact ⟨⟨cs, i, r', s, by rw [upd_ne (Ne.symm h.rb)]; exact h1, by rw [upd_ne (Ne.symm h.rc)]; exact h2, h3⟩, upd_same, h.rb, h.rc⟩
theorem BL.same {H H' : Hp} {b c r : Addr} {xs : List V} (h : BL H b c r xs) (s : Same H H') : BL H' b c r xs := ⟨h.bx.same s, s _ _ h.at_, h.rb, h.rc⟩
theorem BL.mk_new {H : Hp} {b c r : Addr} {xs : List V} (h : Bx H b c) (hr : H r = none) : BL (upd H r (.lst xs)) b c r xs := by
  obtain ⟨cs, i, r', s, h1, h2, h3⟩ := id h
  exact ⟨h.new hr, upd_same, Ne.symm (ne_of_none h1 hr), Ne.symm (ne_of_none h2 hr)⟩
/-- the error that is promised -/
def XErr (E : XK) (H : Hp) (C : Addr) (f : Str) (v : V) : Prop := ∀ d : Addr, H d = none → E (.ref C) (some d) (upd H d (.xd [(f, v)]))

/-! ### shorthands for the readings -/
theorem Same.at' {H H' : Hp} {a : Addr} {o : HO} (s : Same H H') (h : H a = some o) : H' a = some o := s a o h
/-- all but the list at b is kept -/
def Kept (b : Addr) (H H' : Hp) : Prop := ∀ x o, x ≠ b → H x = some o → H' x = some o
theorem Kept.refl {b : Addr} {H : Hp} : Kept b H H := fun _ _ _ h => h
theorem Kept.at' {b a : Addr} {H H' : Hp} {o : HO} (s : Kept b H H') (n : a ≠ b) (h : H a = some o) : H' a = some o := s a o n h
theorem Kept.trans {b : Addr} {H H1 H2 : Hp} (s : Kept b H H1) (t : Kept b H1 H2) : Kept b H H2 := fun x o n h => t x o n (s x o n h)
theorem Kept.take {b : Addr} {H H1 : Hp} {o : HO} (s : Kept b H H1) : Kept b H (upd H1 b o) := fun x u n h => by rw [upd_ne n]; exact s x u n h
theorem Kept.new {b p : Addr} {H H1 : Hp} {o : HO} (s : Kept b H H1) (hp : H1 p = none) : Kept b H (upd H1 p o) := fun x u n h => by rw [upd_ne (ne_of_none (s x u n h) hp)]; exact s x u n h
theorem Kept.put {b p : Addr} {H H1 : Hp} {o : HO} (s : Kept b H H1) (hp : H p = none) : Kept b H (upd H1 p o) := fun x u n h => by rw [upd_ne (ne_of_none h hp)]; exact s x u n h
theorem Kept.same {b : Addr} {H H1 H2 : Hp} (s : Kept b H H1) (t : Same H1 H2) : Kept b H H2 := fun x o n h => t x o (s x o n h)
theorem Same.new' {H H1 : Hp} {p : Addr} {o : HO} (s : Same H H1) (hp : H1 p = none) : Same H (upd H1 p o) := fun x u h => by rw [upd_ne (ne_of_none (s x u h) hp)]; exact s x u h
theorem Same.put' {H H1 : Hp} {p : Addr} {o : HO} (s : Same H H1) (hp : H p = none) : Same H (upd H1 p o) := fun x u h => by rw [upd_ne (ne_of_none h hp)]; exact s x u h
theorem Bx.nb {H : Hp} {b c r : Addr} (hr : H r = none) (h : Bx H b c) : r ≠ b := by
  obtain ⟨cs, i, r', s, h1, h2, h3⟩ := h
  exact Ne.symm (ne_of_none h1 hr)
theorem Bx.nc {H : Hp} {b c r : Addr} (hr : H r = none) (h : Bx H b c) : r ≠ c := by
  obtain ⟨cs, i, r', s, h1, h2, h3⟩ := h
  exact Ne.symm (ne_of_none h2 hr)
theorem Bx.put {H : Hp} {b c r : Addr} {o : HO} (h : Bx H b c) (n1 : r ≠ b) (n2 : r ≠ c) : Bx (upd H r o) b c := by
  obtain ⟨cs, i, r', s, h1, h2, h3⟩ := h
  exact ⟨cs, i, r', s, by rw [upd_ne (Ne.symm n1)]; exact h1, by rw [upd_ne (Ne.symm n2)]; exact h2, h3⟩
theorem Bx.kept {H H' : Hp} {b c : Addr} {o : HO} (h : Bx (upd H b o) b c) (s : Kept b H H') : Bx (upd H' b o) b c := by
  have n := h.ne
  obtain ⟨cs, i, r', s', h1, h2, h3⟩ := h
  rw [upd_ne n] at h2
  exact ⟨cs, i, r', s', by rw [upd_same] at h1 ⊢; exact h1, by rw [upd_ne n]; exact s c _ n h2, h3⟩
theorem ne_of_none' {H : Hp} {a b : Addr} {o : HO} (h' : H b = none) (h : H a = some o) : a ≠ b := ne_of_none h h'
theorem upd_at {H : Hp} {a p : Addr} {o u : HO} (n : a ≠ p) (h : H a = some u) : upd H p o a = some u := (upd_ne n).trans h
theorem Bx.new' {H : Hp} {b c p : Addr} {o : HO} (hp : H p = none) (h : Bx H b c) : Bx (upd H p o) b c := h.new hp
theorem Bx.same' {H H' : Hp} {b c : Addr} (s : Same H H') (h : Bx H b c) : Bx H' b c := h.same s
local macro_rules | `(tactic| walk_at "nea") => `(tactic| first
    | assumption
    | (apply Ne.symm; assumption)
    | (apply ne_of_none'; assumption; walk_at "hpa")
    | (apply Ne.symm; apply ne_of_none'; assumption; walk_at "hpa")
    | (apply Bx.nb; assumption; walk_at "bxa")
    | (apply Bx.nc; assumption; walk_at "bxa")
    | (apply Ne.symm; apply Bx.nb; assumption; walk_at "bxa")
    | (apply Ne.symm; apply Bx.nc; assumption; walk_at "bxa"))
local macro_rules | `(tactic| walk_at "hpa") => `(tactic| first
    | assumption
    | exact upd_same
    | (apply upd_at; walk_at "nea"; walk_at "hpa")
    | (apply Same.at'; assumption; walk_at "hpa")
    | (apply Kept.at'; assumption; walk_at "nea"; walk_at "hpa"))
local macro_rules | `(tactic| walk_at "bxa") => `(tactic| first
    | assumption
    | (apply Bx.new'; assumption; walk_at "bxa")
    | (apply Bx.same'; assumption; walk_at "bxa")
    | (apply Bx.put; walk_at "bxa"; walk_at "nea"; walk_at "nea"))
/-- one step of a reading -/
local macro_rules | `(tactic| walk_at "rd1") => `(tactic| first
    | refine ⟨_, rfl, ?_⟩
    | refine ⟨_, _, rfl, rfl, ?_⟩
    | refine ⟨rfl, _, rfl, ?_⟩
    | refine ⟨_, _, _, _, rfl, rfl, SqL.of (by walk_at "hpa"), (by rfl), ?_⟩
    | refine ⟨_, _, _, _, rfl, rfl, SqT.of (by walk_at "hpa"), (by rfl), ?_⟩
    | refine ⟨_, _, rfl, .inl (SqL.of (by walk_at "hpa")), ?_⟩
    | refine ⟨_, _, rfl, .inr (SqT.of (by walk_at "hpa")), ?_⟩)
local macro_rules | `(tactic| walk_at "rd1") => `(tactic| refine ⟨_, _, _, _, _, rfl, (by walk_at "hpa"), (by assumption), (by assumption), (by rfl), ?_⟩)
theorem map_get' {α β : Type} {f : α → β} {ns : List α} {i : Nat} {y : β} (hi : (ns.map f)[i]? = some y) : ∃ z, ns[i]? = some z ∧ y = f z := by
  rw [List.getElem?_map] at hi
  cases e : ns[i]? with
  | none => rw [e] at hi; cases hi
  | some z => rw [e] at hi; exact ⟨z, rfl, (Option.some.inj hi).symm⟩
/-- the item at a place within -/
theorem at_in {α : Type} {f : α → V} {l : List α} {i : Int} {d : α} (h0 : 0 ≤ i) (h1 : i < (l.length : Int)) : atI (l.map f) i = some (f (l.getD i.toNat d)) := by
  have hj : i.toNat < l.length := by omega
  have e := atI_nat (xs := l.map f) (j := i.toNat) (v := f l[i.toNat]) (by rw [List.getElem?_map, List.getElem?_eq_getElem hj]; rfl)
  rw [Int.toNat_of_nonneg h0] at e
  rw [e, List.getD_eq_getElem?_getD, List.getElem?_eq_getElem hj]
  rfl
theorem dec_t {p : Prop} [Decidable p] (h : decide p = true) : p := of_decide_eq_true h
theorem dec_f {p : Prop} [Decidable p] (h : ¬ decide p = true) : ¬ p := of_decide_eq_false (Bool.eq_false_iff.mpr h)
local macro_rules | `(tactic| walk_at "rd1") => `(tactic| first
    | refine ⟨_, _, rfl, rfl, ⟨by decide, by decide, by decide⟩, ?_⟩
    | refine ⟨_, _, rfl, rfl, .inr ⟨by decide, by decide⟩, ?_⟩
    | refine ⟨_, _, rfl, rfl, .inl ⟨by decide, by decide⟩, ?_⟩
    | refine ⟨_, _, _, _, true, rfl, .ty "int", .base (.int _), kit_ty (by decide +kernel), ?_⟩
    | refine ⟨_, _, _, _, false, rfl, .ty "bool", .base (.int _), kit_ty (by decide +kernel), ?_⟩
    | refine ⟨_, _, _, _, true, rfl, .ty "list", .base (.lst (by walk_at "hpa")), kit_ty (by decide +kernel), ?_⟩
    | refine ⟨_, _, _, _, true, rfl, .ty "tuple", .base (.tup (by walk_at "hpa")), kit_ty (by decide +kernel), ?_⟩)
/-- two lists, item by item -/
inductive Al {α β : Type} (P : α → β → Prop) : List α → List β → Prop
  | nil : Al P [] []
  | cons {a : α} {b : β} {l : List α} {m : List β} : P a b → Al P l m → Al P (a :: l) (b :: m)
section
variable {α β : Type} {P P' : α → β → Prop} {l l' : List α} {m m' : List β}
theorem Al.len (h : Al P l m) : l.length = m.length := by
  induction h with
  | nil => rfl
  | cons _ _ ih => rw [List.length_cons, List.length_cons, ih]
theorem Al.mono (h : Al P l m) (f : ∀ a b, P a b → P' a b) : Al P' l m := by
  induction h with
  | nil => exact .nil
  | cons h1 _ ih => exact .cons (f _ _ h1) ih
theorem Al.get (h : Al P l m) : ∀ (i : Nat) (a : α) (b : β), l[i]? = some a → m[i]? = some b → P a b := by
  induction h with
  | nil => intro i a b e; simp at e
  | cons h1 _ ih =>
    intro i a b e1 e2
    cases i with
    | zero =>
      rw [← Option.some.inj e1, ← Option.some.inj e2]
      exact h1
    | succ i => exact ih i a b e1 e2
theorem Al.app (h : Al P l m) (h' : Al P l' m') : Al P (l ++ l') (m ++ m') := by
  induction h with
  | nil => exact h'
  | cons h1 _ ih => exact .cons h1 ih
theorem Al.snoc {a : α} {b : β} (h : Al P l m) (hp : P a b) : Al P (l ++ [a]) (m ++ [b]) := h.app (.cons hp .nil)
theorem Al.take (h : Al P l m) : ∀ i, Al P (l.take i) (m.take i) := by
  induction h with
  | nil => intro i; simp; exact .nil
  | cons h1 _ ih =>
    intro i
    cases i with
    | zero => exact .nil
    | succ i => exact .cons h1 (ih i)
theorem Al.drop (h : Al P l m) : ∀ i, Al P (l.drop i) (m.drop i) := by
  induction h with
  | nil => intro i; simp; exact .nil
  | cons h1 h2 ih =>
    intro i
    cases i with
    | zero => exact .cons h1 h2
    | succ i => exact ih i
theorem Al.ins {a : α} {b : β} (h : Al P l m) (i : Nat) (hp : P a b) : Al P (l.take i ++ [a] ++ l.drop i) (m.take i ++ [b] ++ m.drop i) := ((h.take i).snoc hp).app (h.drop i)
end
/-! ### plain data: what is compared as a whole -/
def SOk (n : Nat) (d : PyData) : Prop := d.canLay0 = true ∧ d.depth ≤ n
theorem SOk.shaped {n : Nat} {d : PyData} (h : SOk n d) (hn : n ≤ 64 := by decide) : SeqAt.shaped d = true := by
  unfold SeqAt.shaped
  rw [h.1, Bool.true_and]
  exact decide_eq_true (Nat.le_trans h.2 hn)
theorem SOk.int {n : Nat} (i : Int) : SOk n (.int i) := ⟨rfl, Nat.zero_le _⟩
theorem SOk.bool {n : Nat} (b : Bool) : SOk n (.bool b) := ⟨rfl, Nat.zero_le _⟩
theorem SOk.none {n : Nat} : SOk n .none := ⟨rfl, Nat.zero_le _⟩
theorem SOk.str {n : Nat} {x : Str} (h : PyData.strOk x = true) : SOk n (.str x) := ⟨h, Nat.zero_le _⟩
theorem SOk.all {n : Nat} : ∀ {ds : List PyData}, (∀ d ∈ ds, SOk n d) → PyData.canLayAll0 ds = true ∧ PyData.depthAll ds ≤ n
  | [], _ => ⟨rfl, Nat.zero_le _⟩
  | d :: ds, h => by
    have h1 := h d List.mem_cons_self
    have h2 := SOk.all (ds := ds) fun e he => h e (List.mem_cons_of_mem _ he)
    refine ⟨?_, Nat.max_le.mpr ⟨h1.2, h2.2⟩⟩
    show (PyData.canLay0 d && PyData.canLayAll0 ds) = true
    rw [h1.1, h2.1]
    rfl
theorem SOk.list {n : Nat} {ds : List PyData} (h : ∀ d ∈ ds, SOk n d) : SOk (n + 1) (.list ds) := ⟨(SOk.all h).1, Nat.succ_le_succ (SOk.all h).2⟩
theorem SOk.tuple {n : Nat} {ds : List PyData} (h : ∀ d ∈ ds, SOk n d) : SOk (n + 1) (.tuple ds) := ⟨(SOk.all h).1, Nat.succ_le_succ (SOk.all h).2⟩
theorem SOk.map {α : Type} {n : Nat} {f : α → PyData} {l : List α} (h : ∀ a ∈ l, SOk n (f a)) : ∀ d ∈ l.map f, SOk n d := fun d hd => by
  obtain ⟨a, ha, rfl⟩ := List.mem_map.mp hd
  exact h a ha
theorem SOk.refl {n : Nat} {d : PyData} (h : SOk n d) : PyData.eqv d d = true := SeqAt.eqv_refl _ h.1
theorem dp_ints {K : PySem.W.Frag} {H : Hp} : ∀ xs : List Int, DpAll K H (xs.map V.int) (xs.map PyData.int)
  | [] => .nil
  | x :: xs => .cons (.int x) (dp_ints xs)
theorem sok_ints {n : Nat} (xs : List Int) : SOk (n + 1) (.list (xs.map PyData.int)) := SOk.list (SOk.map fun a _ => .int a)

/-! ### new lists -/
/-- a new list is handed back -/
def NewL (H : Hp) (Q : VK) (xs : List V) : Prop := ∀ (p : Addr) (H' : Hp), Same H H' → H p = none → H' p = some (.lst xs) → Q (.ref p) H'
theorem NewL.go {H H1 : Hp} {Q : VK} {xs : List V} (k : NewL H Q xs) (s : Same H H1) {p : Addr} (hp : H1 p = none) : Q (.ref p) (upd H1 p (.lst xs)) :=
  k p _ (fun b o e => by rw [upd_ne (ne_of_none (s b o e) hp)]; exact s b o e) (s.free hp) upd_same
/-- a new tuple is handed back -/
def NewT (H : Hp) (Q : VK) (xs : List V) : Prop := ∀ (p : Addr) (H' : Hp), Same H H' → H p = none → H' p = some (.tup xs) → Q (.ref p) H'
theorem NewT.go {H H1 : Hp} {Q : VK} {xs : List V} (k : NewT H Q xs) (s : Same H H1) {p : Addr} (hp : H1 p = none) : Q (.ref p) (upd H1 p (.tup xs)) :=
  k p _ (fun b o e => by rw [upd_ne (ne_of_none (s b o e) hp)]; exact s b o e) (s.free hp) upd_same

/-! ### trials: place, height, reached -/
abbrev Row := Int × Int × Bool
def trO (K : PySem.W.Frag) (dx : Addr) (r : Row) : HO := .ins (He.ga K "Trial") dx [("place", .int r.1), ("height", .int r.2.1), ("reached", .bl r.2.2)]
def IsTr (K : PySem.W.Frag) (H : Hp) (t : Addr) (r : Row) : Prop := ∃ dx, H t = some (trO K dx r)
theorem IsTr.same {K : PySem.W.Frag} {H H' : Hp} {t : Addr} {r : Row} (h : IsTr K H t r) (s : Same H H') : IsTr K H' t r := let ⟨dx, e⟩ := h; ⟨dx, s _ _ e⟩
/-- trials in a row -/
def Trs (K : PySem.W.Frag) (H : Hp) : List Addr → List Row → Prop := Al (IsTr K H)
theorem Trs.same {K : PySem.W.Frag} {H H' : Hp} {us : List Addr} {rows : List Row} (h : Trs K H us rows) (s : Same H H') : Trs K H' us rows := Al.mono h fun _ _ z => z.same s
/-- a row as a tuple, rows as tuples -/
def rowO (r : Row) : HO := .tup [.int r.1, .int r.2.1, .bl r.2.2]
def Rws (H : Hp) : List Addr → List Row → Prop := Al fun u r => H u = some (rowO r)
def sp_TrialU_initU (K : PySem.W.Frag) : Sp := fun vs H Q _ => ∃ (x dx : Addr) (r : Row), vs = [.ref x, .int r.1, .int r.2.1, .bl r.2.2] ∧ H x = some (.ins (He.ga K "Trial") dx []) ∧ Q .non (upd H x (trO K dx r))
theorem ok_TrialU_initU (T : Txt K mg) : FnOk PP w K mg base (L2.CX PP w) 1 (He.ma K (He.ga K "Trial") "__init__") T.fd_TrialU_initU ["self", "place", "height", "reached"] (sp_TrialU_initU K) := by
  refine T.F_TrialU_initU.ok sc_TrialU_initU (fun vs H Q E h => ?_) (fun cdv A outer s H vs Q E hr h => ?_)
  · obtain ⟨x, dx, r, rfl, _⟩ := h
    rfl
  · obtain ⟨x, dx, r, rfl, hx, k⟩ := h
    refine ⟨_, (pss_cons (Cl.sfld K (pv 0) (pv 1))
      (pss_cons (Cl.sfld K (pv 0) (pv 2))
      (pss_one (Cl.sfld K (pv 0) (pv 3))))), ?_⟩
    refine ⟨_, rfl, _, rfl, x, _, dx, _, rfl, hx, T.cl_Trial, T.na_Trial_place, by decide, ?_⟩
    refine ⟨_, rfl, _, rfl, x, _, dx, _, rfl, upd_same, T.cl_Trial, T.na_Trial_height, (by show (1 : Nat) < 1000; decide), ?_⟩
    refine ⟨_, rfl, _, rfl, x, _, dx, _, rfl, upd_same, T.cl_Trial, T.na_Trial_reached, (by show (2 : Nat) < 1000; decide), ?_⟩
    rw [upd_upd, upd_upd]
    exact k
theorem tr_new {K : PySem.W.Frag} {H : Hp} {x dx : Addr} {r : Row} (hx : H x = none) (hd : H dx = none) (hne : dx ≠ x) : Same H (upd (upd H dx (.own x)) x (trO K dx r)) ∧ IsTr K (upd (upd H dx (.own x)) x (trO K dx r)) x r :=
  ⟨fun y o e => by rw [upd_ne (ne_of_none e hx), upd_ne (ne_of_none e hd)]; exact e, dx, upd_same⟩
def okRow (n : Nat) (r : Row) : Bool := decide (0 ≤ r.1) && decide (r.1 < (n : Int))
def agr (hs : List Int) (r : Row) : Bool := decide (hs.getD r.1.toNat 0 ≤ r.2.1) == r.2.2
def sp_Trial_agrees (K : PySem.W.Frag) : Sp := fun vs H Q E => ∃ (t a : Addr) (r : Row) (hs : List Int), vs = [.ref t, .ref a] ∧ IsTr K H t r ∧ H a = some (.lst (hs.map V.int)) ∧ (okRow hs.length r = false → XErr E H (He.ga K "NoPlace") "place" (.int r.1)) ∧ (okRow hs.length r = true → Q (.bl (agr hs r)) H)
theorem ok_Trial_agrees (T : Txt K mg) : FnOk PP w K mg base (L2.CX PP w) 1 (He.ma K (He.ga K "Trial") "agrees") T.fd_Trial_agrees ["self", "heights"] (sp_Trial_agrees K) := by
  have cT := T.cl_Trial
  have n1 := T.na_Trial_place
  have n2 := T.na_Trial_height
  have n3 := T.na_Trial_reached
  refine T.F_Trial_agrees.ok sc_Trial_agrees (fun vs H Q E h => ?_) (fun cdv A outer s H vs Q E hr h => ?_)
  · obtain ⟨t, a, r, hs, rfl, _⟩ := h
    rfl
  · obtain ⟨t, a, ⟨p, q, r⟩, hs, rfl, ⟨dx, ht⟩, ha, k1, k2⟩ := h
    unfold trO at ht
    refine ⟨_, (pss_cons (ps_if (pt_not (pt_chain op_le op_lt pe_int (Cl.fld K (pv 0)) (pe_callB (id := "len") (Cl.len K) (by rfl) T.n_len (by decide +kernel) (pa_cons (pv 1) pa_nil))))
      (pss_one (ps_raiseErr rfl T.er_NoPlace T.m_NoPlace T.n_super hr (takes_of rfl rfl rfl rfl) (pa_cons (Cl.fld K (pv 0)) pa_nil)))
      pss_nil)
      (pss_one (ps_ret (pe_cmpR op_eq (pe_cmpR op_le (pe_ix (Cl.ixL K) (pv 1) (Cl.fld K (pv 0)) (fun _ _ => rfl)) (Cl.fld K (pv 0)) (nomark _)) (Cl.fld K (pv 0)) (nomark _))))), ?_⟩
    have hl : (hs.map V.int).length = hs.length := List.length_map ..
    repeat walk_at "rd1"
    refine ite2 (fun c => ?_) (fun c => ?_)
    · skip
      repeat walk_at "rd1"
      rw [hl]
      have c' := dec_t c
      by_cases c2 : p < (hs.length : Int)
      · have c3 : (if (!decide (p < (hs.length : Int))) = true then True else False) = False := by simp [c2]
        rw [show decide (p < (hs.length : Int)) = true from decide_eq_true c2]
        refine ite2 (fun c4 => Bool.noConfusion c4) (fun _ => ?_)
        repeat walk_at "rd1"
        refine ⟨_, _, _, _, rfl, rfl, SqL.of (by walk_at "hpa"), at_in (d := 0) c' c2, ?_⟩
        repeat walk_at "rd1"
        refine ⟨rfl, ?_⟩
        have z := k2 (by unfold okRow; simp [c', c2])
        unfold agr at z
        rw [← dec_bl] at z
        exact z
      · rw [show decide (p < (hs.length : Int)) = false from decide_eq_false c2]
        refine ite2 (fun _ => ?_) (fun c4 => absurd rfl c4)
        repeat walk_at "rd1"
        exact k1 (by unfold okRow; simp [c2])
    · have c' := dec_f c
      repeat walk_at "rd1"
      exact k1 (by unfold okRow; simp; omega)
def dRow (r : Row) : PyData := .tuple [.int r.1, .int r.2.1, .bool r.2.2]
theorem sok_row {n : Nat} (r : Row) : SOk (n + 1) (dRow r) := SOk.tuple (by
  intro d hd
  simp only [List.mem_cons, List.not_mem_nil, or_false] at hd
  rcases hd with rfl | rfl | rfl
  · exact .int _
  · exact .int _
  · exact .bool _)
theorem sok_rows {n : Nat} (rows : List Row) : SOk (n + 2) (.list (rows.map dRow)) := SOk.list (SOk.map fun r _ => sok_row r)
theorem Rws.dp {K : PySem.W.Frag} {H : Hp} {us : List Addr} {rows : List Row} (h : Rws H us rows) : DpAll K H (us.map V.ref) (rows.map dRow) := by
  induction h with
  | nil => exact .nil
  | cons h1 _ ih => exact .cons (.tup (SqT.of h1) (.cons (.int _) (.cons (.int _) (.cons (.bl _) .nil)))) ih

/-! ### misread_numbers -/
def misN (hs : List Int) (rows : List Row) (n : Nat) : List Int := ((List.range n).filter fun j => !agr hs (rows.getD j (0, 0, false))).map Int.ofNat
theorem misN_succ {hs : List Int} {rows : List Row} {i : Nat} {r : Row} (h : rows[i]? = some r) : misN hs rows (i + 1) = misN hs rows i ++ if agr hs r then [] else [(i : Int)] := by
  unfold misN
  rw [List.range_succ, List.filter_append, List.map_append]
  congr 1
  rw [List.filter_cons, List.getD_eq_getElem?_getD, h]
  cases h2 : agr hs r <;> simp [h2]
theorem misN_len (hs : List Int) (rows : List Row) (n : Nat) : (misN hs rows n).length ≤ n := by
  unfold misN
  rw [List.length_map]
  exact Nat.le_trans (List.length_filter_le _ _) (by rw [List.length_range]; exact Nat.le_refl _)
theorem find_first {α : Type} {p : α → Bool} {l : List α} {i : Nat} {x : α} (h : l[i]? = some x) (hx : p x = true) (hb : ∀ j y, j < i → l[j]? = some y → p y = false) : l.find? p = some x := by
  induction l generalizing i with
  | nil => simp at h
  | cons a l ih =>
    rw [List.find?_cons]
    cases i with
    | zero =>
      have e : a = x := Option.some.inj h
      subst e
      rw [hx]
    | succ i =>
      have e := hb 0 a (Nat.succ_pos _) rfl
      rw [e]
      exact ih h fun j y hj hy => hb (j + 1) y (Nat.succ_lt_succ hj) hy
def sp_misread_numbers (K : PySem.W.Frag) : Sp := fun vs H Q E => ∃ (l a : Addr) (us : List Addr) (rows : List Row) (hs : List Int), vs = [.ref l, .ref a] ∧ (H l = some (.lst (us.map V.ref)) ∨ H l = some (.tup (us.map V.ref))) ∧ Trs K H us rows ∧ rows.length ≤ 1000 ∧ H a = some (.lst (hs.map V.int)) ∧
  (∀ r, rows.find? (fun r => !okRow hs.length r) = some r → ∀ H', Same H H' → XErr E H' (He.ga K "NoPlace") "place" (.int r.1)) ∧ ((∀ r ∈ rows, okRow hs.length r = true) → NewL H Q ((misN hs rows rows.length).map V.int))
theorem ok_misread_numbers (T : Txt K mg) : FnOk PP w K mg base (L2.CX PP w) 2 (He.ga K "misread_numbers") T.fd_misread_numbers ["trials", "heights"] (sp_misread_numbers K) := by
  have G_Trial_agrees_2 : FnR PP w K mg base (L2.CX PP w) _ _ _ := (ok_Trial_agrees T).raw (b_Trial_agrees_2 T).2 (b_Trial_agrees_2 T).1
  refine T.F_misread_numbers.ok sc_misread_numbers (fun vs H Q E h => ?_) (fun cdv A outer s H vs Q E hr h => ?_)
  · obtain ⟨l, a, us, rows, hs, rfl, _⟩ := h
    rfl
  · obtain ⟨l, a, us, rows, hs, rfl, hl, hT, hle, ha, k1, k2⟩ := h
    refine ⟨_, (pss_one (ps_ret (CoR.pe_lc (own := [("index", 2), ("trial", 3)]) rfl rfl (takes_of rfl rfl rfl rfl) rfl sc_misread_numbers.nd (EnB.pi_or (Cl.piE K (by rfl) T.n_enumerate (pa_cons (pv 0) pa_nil)) (EnB.pi_et K (by rfl) T.n_enumerate (pa_cons (pv 0) pa_nil))) (blkOk_by (N := ["trials", "heights", "index", "trial"]) (sc := defScope s_misread_numbers) (by decide +kernel)) (fun _ _ _ _ _ => (Cl.pgT K (n := 2) (pgs_cons (pg_name (i := 2) sc_misread_numbers.nd rfl (by first | exact Or.inl rfl | exact Or.inr rfl)) (pgs_cons (pg_name (i := 3) sc_misread_numbers.nd rfl (by first | exact Or.inl rfl | exact Or.inr rfl)) pgs_nil)))) (fun _ _ _ _ _ => (pts_one (pt_not (pt_val (Cl.pe_m (pv 3) T.cl_Trial T.me_Trial_agrees G_Trial_agrees_2 (hr.mono (by decide)) (fun σ => CoR.inB σ) (pa_cons (pv 1) pa_nil)))))) (fun _ _ _ _ _ => (pv 2))))), ?_⟩
    let Pv : Addr → Nat → Hp → Prop := fun D i H' => Same H H' ∧ H' D = some (.lst ((misN hs rows i).map V.int)) ∧ ∀ j r, j < i → rows[j]? = some r → okRow hs.length r = true
    have h0 : ∀ D, H D = none → Pv D 0 (upd H D (.lst [])) := fun D hD => ⟨Same.put' (Same.refl H) hD, upd_same, fun j r hj => absurd hj (Nat.not_lt_zero _)⟩
    have hd : ∀ D, H D = none → ∀ H', Pv D (us.map V.ref).length H' → Q (.ref D) H' := fun D hD H' z => by
      rw [List.length_map, hT.len] at z
      refine k2 (fun r hr => ?_) D H' z.1 hD z.2.1
      obtain ⟨j, hj⟩ := List.getElem?_of_mem hr
      exact z.2.2 j r (List.getElem?_eq_some_iff.mp hj).1 hj
    rcases hl with hl | hl
    case' inl => refine .inl ⟨_, rfl, l, _, rfl, SqL.of hl, fun D hD => lc_it walk_enum (Pv D) (h0 D hD) (fun i H' _ z => SqL.of (z.1 _ _ hl)) ?_ (hd D hD)⟩
    case' inr => refine .inr ⟨_, rfl, l, _, rfl, SqT.of hl, fun D hD => lc_it EnB.walk_et (Pv D) (h0 D hD) (fun i H' _ z => SqT.of (z.1 _ _ hl)) ?_ (hd D hD)⟩
    all_goals
      rintro i x H1 _ hi ⟨s1, d1, b1⟩ ⟨t, x1, x2, rfl, ht, rfl, e1, e2⟩
      obtain rfl : V.int (i : Nat) = x1 := Option.some.inj e1
      obtain ⟨u, hu, rfl⟩ := map_get' e2
      have hi' : i < rows.length := by rw [← hT.len]; rw [List.length_map] at hi; exact hi
      have hr := List.getElem?_eq_getElem hi'
      have hu1 := hT.get i u rows[i] hu hr
      obtain ⟨dx, hu2⟩ := hu1
      have s2 : Same H (upd H1 t (.tup [.int (i : Nat), .ref u])) := Same.new' s1 ht
      refine ⟨t, _, rfl, SqT.of upd_same, rfl, _, _, rfl, _, _, rfl, rfl, ?_⟩
      refine ⟨rfl, ?_⟩
      refine ⟨_, rfl, u, dx, _, rfl, s2 _ _ hu2, rfl, _, rfl, ?_⟩
      refine ⟨u, a, rows[i], hs, rfl, ⟨dx, s2 _ _ hu2⟩, s2 _ _ ha, fun hb => ?_, fun hb => ?_⟩
      · exact k1 rows[i] (find_first hr (by rw [hb]; rfl) fun j y hj hy => by rw [b1 j y hj hy]; rfl) _ s2
      · have b2 : ∀ j r, j < i + 1 → rows[j]? = some r → okRow hs.length r = true := fun j r hj hj2 => by
          by_cases e : j = i
          · subst e
            rw [hr] at hj2
            rw [← Option.some.inj hj2]
            exact hb
          · exact b1 j r (by omega) hj2
        have d2 : upd H1 t (.tup [.int (i : Nat), .ref u]) D = some (.lst ((misN hs rows i).map V.int)) := by rw [upd_ne (ne_of_none d1 ht)]; exact d1
        refine ⟨_, rfl, ?_⟩
        cases ha2 : agr hs rows[i] with
        | true =>
          refine ⟨s2, ?_, b2⟩
          rw [d2, misN_succ hr, ha2]
          simp
        | false =>
          refine ⟨_, rfl, _, d2, ?_, Same.put' s2 hD, ?_, b2⟩
          · have := misN_len hs rows i
            rw [List.length_map, sizeLine_eq]
            omega
          · rw [upd_same, misN_succ hr, ha2, List.map_append]
            rfl

/-! ### pinned and the law's own defs -/
def sp_pinned (K : PySem.W.Frag) : Sp := fun vs H Q _ => ∃ p h : Int, vs = [.int p, .int h] ∧ ∀ (l u1 u2 : Addr) (H' : Hp), Same H H' → H l = none → H' l = some (.lst [.ref u1, .ref u2]) → Trs K H' [u1, u2] [(p, h, true), (p, h - 1, false)] → Q (.ref l) H'
theorem ok_pinned (T : Txt K mg) : FnOk PP w K mg base (L2.CX PP w) 3 (He.ga K "pinned") T.fd_pinned ["place", "height"] (sp_pinned K) := by
  have G_TrialU_initU_4 : FnR PP w K mg base (L2.CX PP w) _ _ _ := (ok_TrialU_initU T).raw (b_TrialU_initU_4 T).2 (b_TrialU_initU_4 T).1
  refine T.F_pinned.ok sc_pinned (fun vs H Q E h => ?_) (fun cdv A outer s H vs Q E hr h => ?_)
  · obtain ⟨p, h, rfl, _⟩ := h
    rfl
  · obtain ⟨p, h, rfl, k⟩ := h
    refine ⟨_, (pss_one (ps_ret (pe_lst (pa_cons (Cl.pe_mk T.mk_Trial G_TrialU_initU_4 (hr.mono (by decide)) (by rfl) T.m_Trial (fun σ => Cl.at_ (takes_of rfl rfl rfl rfl) σ) (pa_cons (pv 0) (pa_cons (pv 1) (pa_cons pe_bl pa_nil)))) (pa_cons (Cl.pe_mk T.mk_Trial G_TrialU_initU_4 (hr.mono (by decide)) (by rfl) T.m_Trial (fun σ => Cl.at_ (takes_of rfl rfl rfl rfl) σ) (pa_cons (pv 0) (pa_cons (pe_op op_sub (pv 1) pe_int) (pa_cons pe_bl pa_nil)))) pa_nil))))), ?_⟩
    repeat walk_at "rd1"
    intro x dx hx hd hne
    refine ⟨x, dx, (p, h, true), rfl, upd_same, rfl, ?_⟩
    rw [upd_upd]
    obtain ⟨s1, t1⟩ := tr_new (K := K) (r := (p, h, true)) hx hd hne
    generalize hG : upd (upd _ dx (.own x)) x _ = H1 at s1 t1 ⊢
    clear hG hd hne
    clear dx
    repeat walk_at "rd1"
    intro y dx hy hd hne
    refine ⟨y, dx, (p, h - 1, false), rfl, upd_same, rfl, ?_⟩
    rw [upd_upd]
    obtain ⟨s2, t2⟩ := tr_new (K := K) (r := (p, h - 1, false)) hy hd hne
    generalize hG : upd (upd _ dx (.own y)) y _ = H2 at s2 t2 ⊢
    clear hG hd hne
    clear dx
    refine ⟨(by first | decide | (simp only [List.length_cons, List.length_nil]; decide)), fun l hl => ?_⟩
    have s3 : Same H2 (upd H2 l (.lst [.ref x, .ref y])) := Same.new' (Same.refl _) hl
    refine k l x y _ (Same.trans (Same.trans s1 s2) s3) (s1.free (s2.free hl)) upd_same (.cons ((t1.same s2).same s3) (.cons (t2.same s3) .nil))
def sp_law_numbers : Sp := fun vs H Q _ => ∃ (l d : Addr) (xs : List Int), vs = [.ref l, .ref d] ∧ H l = some (.lst (xs.map V.int)) ∧ H d = some (.lst (xs.map V.int)) ∧ xs.length ≤ 1000 ∧ Q (.bl true) H
theorem ok_law_numbers (T : Txt K mg) : FnOk PP w K mg base (L2.CX PP w) 1 (He.ga K "_law_numbers") T.fd_law_numbers ["_law_row", "_law_due"] sp_law_numbers := by
  refine T.F_law_numbers.ok sc_law_numbers (fun vs H Q E h => ?_) (fun cdv A outer s H vs Q E hr h => ?_)
  · obtain ⟨l, d, xs, rfl, _⟩ := h
    rfl
  · obtain ⟨l, d, xs, rfl, hl, hd, hle, k⟩ := h
    refine ⟨_, (pss_cons (ps_if (PW.pt (pw_or (pt_not (pt_val (pe_callB (id := "isinstance") (Cl.isi K) (by rfl) T.n_isinstance (by decide +kernel) (pa_cons (pv 0) (pa_cons (pe_bltn (v := .ty "list") (u := .type "list") (by rfl) T.n_list (by decide +kernel) rfl) pa_nil))))) (pw_or1 (pt_cmpR op_ne (pe_callB (id := "len") (Cl.len K) (by rfl) T.n_len (by decide +kernel) (pa_cons (pv 0) pa_nil)) (pe_callB (id := "len") (Cl.len K) (by rfl) T.n_len (by decide +kernel) (pa_cons (pv 1) pa_nil)) (nomark _)))))
      (pss_one (ps_ret pe_bl))
      pss_nil)
      (pss_cons (ps_for (passes_of rfl) rfl (pi_range1 (by rfl) T.n_range (pa_cons (pe_callB (id := "len") (Cl.len K) (by rfl) T.n_len (by decide +kernel) (pa_cons (pv 1) pa_nil)) pa_nil)) (pg_name (i := 2) sc_law_numbers.nd rfl (by first | exact Or.inl rfl | exact Or.inr rfl))
      (pss_one (ps_if (PW.pt (pw_or (pt_not (pt_val (pe_callB (id := "isinstance") (Cl.isi K) (by rfl) T.n_isinstance (by decide +kernel) (pa_cons (pe_ix (Cl.ixL K) (pv 0) (pv 2) (fun _ _ => rfl)) (pa_cons (pe_bltn (v := .ty "int") (u := .type "int") (by rfl) T.n_int (by decide +kernel) rfl) pa_nil))))) (pw_or (pt_val (pe_callB (id := "isinstance") (Cl.isi K) (by rfl) T.n_isinstance (by decide +kernel) (pa_cons (pe_ix (Cl.ixL K) (pv 0) (pv 2) (fun _ _ => rfl)) (pa_cons (pe_bltn (v := .ty "bool") (u := .type "bool") (by rfl) T.n_bool (by decide +kernel) rfl) pa_nil)))) (pw_or1 (pt_cmpR op_ne (pe_ix (Cl.ixL K) (pv 0) (pv 2) (fun _ _ => rfl)) (pe_ix (Cl.ixL K) (pv 1) (pv 2) (fun _ _ => rfl)) (nomark _))))))
      (pss_one (ps_ret pe_bl))
      pss_nil)))
      (pss_one (ps_ret pe_bl)))), ?_⟩
    have hlen : (xs.map V.int).length = xs.length := List.length_map ..
    repeat walk_at "rd1"
    rw [hlen]
    have e1 : decide (V.int (xs.length : Int) = V.int (xs.length : Int)) = true := decide_eq_true rfl
    rw [e1]
    repeat walk_at "rd1"
    rw [hlen]
    refine ⟨by omega, by omega, for_range (lo := 0) (n := xs.length) (fun i σ' H' => H' = H ∧ ∃ v, σ' = [some (.ref l), some (.ref d), v]) ⟨rfl, _, rfl⟩ ?_ ?_⟩
    · rintro i σ' H' hi ⟨rfl, v, rfl⟩
      have a0 : atI (xs.map V.int) (0 + (i : Int)) = some (V.int (xs.getD (0 + (i : Int)).toNat 0)) := at_in (by omega) (by omega)
      repeat walk_at "rd1"
      refine ⟨_, _, _, _, rfl, rfl, SqL.of (by walk_at "hpa"), a0, ?_⟩
      repeat walk_at "rd1"
      refine ⟨_, _, _, _, rfl, rfl, SqL.of (by walk_at "hpa"), a0, ?_⟩
      repeat walk_at "rd1"
      refine ⟨_, _, _, _, rfl, rfl, SqL.of (by walk_at "hpa"), a0, ?_⟩
      repeat walk_at "rd1"
      refine ⟨_, _, _, _, rfl, rfl, SqL.of (by walk_at "hpa"), a0, ?_⟩
      refine ⟨rfl, _, rfl, ?_⟩
      refine ite2 (fun c => ?_) (fun c => ⟨rfl, _, rfl⟩)
      simp at c
    · rintro σ' H' ⟨rfl, v, rfl⟩
      exact k
/-! tries, trials, rows -/
def sp_law_tries : Sp := fun vs H Q _ => ∃ (b c a : Addr) (n tall : Int) (hs : List Int), vs = [.ref b, .ref a, .int n, .int tall] ∧ Bx H b c ∧ a ≠ b ∧ H a = some (.lst (hs.map V.int)) ∧ 0 < hs.length ∧ hs.length ≤ 100 ∧ 0 ≤ n ∧ n ≤ 100 ∧ 0 ≤ tall ∧ tall < 2 ^ 1000 ∧
  ∀ (l : Addr) (us : List Addr) (rows : List Row) (H' : Hp), Kept b H H' → Bx H' b c → H l = none → H' l = some (.lst (us.map V.ref)) → Rws H' us rows → (∀ r ∈ rows, okRow hs.length r = true) → rows.length = n.toNat → Q (.ref l) H'
theorem Rws.keptIn {b : Addr} {H H' : Hp} {us : List Addr} {rows : List Row} {o : HO} (h : Rws H us rows) (hb : H b = some (.lst xs)) (s : Kept b H H') : Rws H' us rows := Al.mono h fun u r z => s u _ (fun e => by rw [e, hb] at z; cases z) z
theorem Bx.lst {H : Hp} {b c : Addr} (h : Bx H b c) : ∃ xs, H b = some (.lst xs) := let ⟨_, _, _, _, h1, _⟩ := h; ⟨_, h1⟩
theorem Rws.kept {b c : Addr} {H H' : Hp} {us : List Addr} {rows : List Row} (h : Rws H us rows) (hb : Bx H b c) (s : Kept b H H') : Rws H' us rows := by
  obtain ⟨xs, e⟩ := hb.lst
  exact Al.mono h fun u r z => s u _ (fun q => by rw [q, e] at z; cases z) z
theorem Rws.put {l : Addr} {H : Hp} {us : List Addr} {rows : List Row} {xs ys : List V} (h : Rws H us rows) (hl : H l = some (.lst xs)) : Rws (upd H l (.lst ys)) us rows :=
  Al.mono h fun u r z => by rw [upd_ne (fun q => by rw [q, hl] at z; cases z)]; exact z
theorem ok_law_tries (T : Txt K mg) : FnOk PP w K mg base (L2.CX PP w) 2 (He.ga K "_law_tries") T.fd_law_tries ["_law_box_here", "_law_truth", "_law_count", "_law_tall"] sp_law_tries := by
  have G_law_take_2 : FnR PP w K mg base (L2.CX PP w) _ _ _ := (ok_law_take T).raw (b_law_take_2 T).2 (b_law_take_2 T).1
  refine T.F_law_tries.ok sc_law_tries (fun vs H Q E h => ?_) (fun cdv A outer s H vs Q E hr h => ?_)
  · obtain ⟨b, c, a, n, tall, hs, rfl, _⟩ := h
    rfl
  · obtain ⟨b, c, a, n, tall, hs, rfl, hB, nab, ha, h0, h100, n0, n1, t0, t1, k⟩ := h
    refine ⟨_, (pss_cons (ps_set (i := 4) sc_law_tries.nd rfl (by first | exact Or.inl rfl | exact Or.inr rfl) (pe_lst pa_nil))
      (pss_cons (ps_for (passes_of rfl) rfl (pi_range1 (by rfl) T.n_range (pa_cons (pv 2) pa_nil)) (pg_name (i := 5) sc_law_tries.nd rfl (by first | exact Or.inl rfl | exact Or.inr rfl))
      (pss_cons (ps_set (i := 6) sc_law_tries.nd rfl (by first | exact Or.inl rfl | exact Or.inr rfl) (Cl.pe_f G_law_take_2 (hr.mono (by decide)) (by rfl) T.m__law_take T.F_law_take.kp (fun σ => Cl.at_ (takes_of rfl rfl rfl rfl) σ) (pa_cons (pv 0) (pa_cons (pe_callB (id := "len") (Cl.len K) (by rfl) T.n_len (by decide +kernel) (pa_cons (pv 1) pa_nil)) pa_nil))))
      (pss_cons (ps_set (i := 7) sc_law_tries.nd rfl (by first | exact Or.inl rfl | exact Or.inr rfl) (pe_op op_sub (pe_op op_add (pe_ix (Cl.ixL K) (pv 1) (pv 6) (fun _ _ => rfl)) (Cl.pe_f G_law_take_2 (hr.mono (by decide)) (by rfl) T.m__law_take T.F_law_take.kp (fun σ => Cl.at_ (takes_of rfl rfl rfl rfl) σ) (pa_cons (pv 0) (pa_cons pe_int pa_nil)))) pe_int))
      (pss_cons (ps_set (i := 8) sc_law_tries.nd rfl (by first | exact Or.inl rfl | exact Or.inr rfl) (pe_op op_sub (Cl.pe_f G_law_take_2 (hr.mono (by decide)) (by rfl) T.m__law_take T.F_law_take.kp (fun σ => Cl.at_ (takes_of rfl rfl rfl rfl) σ) (pa_cons (pv 0) (pa_cons (pe_op op_add (pv 3) pe_int) pa_nil))) pe_int))
      (Evl.pss_cut (ps_if (pt_cmpR op_eq (Cl.pe_f G_law_take_2 (hr.mono (by decide)) (by rfl) T.m__law_take T.F_law_take.kp (fun σ => Cl.at_ (takes_of rfl rfl rfl rfl) σ) (pa_cons (pv 0) (pa_cons pe_int pa_nil))) pe_int (nomark _))
      (pss_one (ps_set (i := 7) sc_law_tries.nd rfl (by first | exact Or.inl rfl | exact Or.inr rfl) (pv 8)))
      pss_nil)
      (pss_cons (ps_set (i := 9) sc_law_tries.nd rfl (by first | exact Or.inl rfl | exact Or.inr rfl) (pe_cmpR op_le (pe_ix (Cl.ixL K) (pv 1) (pv 6) (fun _ _ => rfl)) (pv 7) (nomark _)))
      (Evl.pss_cut (ps_if (pt_cmpR op_eq (Cl.pe_f G_law_take_2 (hr.mono (by decide)) (by rfl) T.m__law_take T.F_law_take.kp (fun σ => Cl.at_ (takes_of rfl rfl rfl rfl) σ) (pa_cons (pv 0) (pa_cons pe_int pa_nil))) pe_int (nomark _))
      (pss_one (ps_set (i := 9) sc_law_tries.nd rfl (by first | exact Or.inl rfl | exact Or.inr rfl) (pe_not (pv 9))))
      pss_nil)
      (pss_one (ps_expr (pe_bm PySem.F.plainAttrs_list PySem.F.slot_list_append PySem.F.type_list_append mt_append (pv 4) (pa_cons (pe_tup (pa_cons (pv 6) (pa_cons (pv 7) (pa_cons (pv 9) pa_nil)))) pa_nil)))))))))))
      (pss_one (ps_ret (pv 4))))), ?_⟩
    have hlen : (hs.map V.int).length = hs.length := List.length_map ..
    refine ⟨(by first | decide | (simp only [List.length_cons, List.length_nil]; decide)), fun l hl => ?_⟩
    have nlb : l ≠ b := by walk_at "nea"
    have nlc : l ≠ c := by walk_at "nea"
    let Pv : Nat → L2.St → Hp → Prop := fun i σ' H' => ∃ (us : List Addr) (rows : List Row) (v5 v6 v7 v8 v9 : Option V), σ' = [some (.ref b), some (.ref a), some (.int n), some (.int tall), some (.ref l), v5, v6, v7, v8, v9] ∧ Kept b H H' ∧ Bx H' b c ∧ H' l = some (.lst (us.map V.ref)) ∧ Rws H' us rows ∧ (∀ r ∈ rows, okRow hs.length r = true) ∧ rows.length = i
    repeat walk_at "rd1"
    refine ⟨by omega, by omega, for_range (lo := 0) (n := n.toNat) Pv ⟨[], [], _, _, _, _, _, rfl, Kept.put Kept.refl hl, Bx.new hB hl, upd_same, .nil, (fun r hr => nomatch hr), rfl⟩ ?_ ?_⟩
    · rintro i σ' H' hi ⟨us, rows, v5, v6, v7, v8, v9, rfl, kp, B0, hl0, hR, ok, hlen2⟩
      have ha0 : H' a = some (.lst (hs.map V.int)) := kp _ _ nab ha
      repeat walk_at "rd1"
      rw [hlen]
      refine ⟨_, _, _, rfl, (by walk_at "bxa"), (by first | decide | omega), (by first | decide | omega), fun p o1 p0 p1 B1 => ?_⟩
      try rw [upd_upd] at B1 ⊢
      have ai := at_in (f := V.int) (l := hs) (d := 0) p0 p1
      repeat walk_at "rd1"
      refine ⟨_, _, _, _, rfl, rfl, SqL.of (by walk_at "hpa"), ai, ?_⟩
      repeat walk_at "rd1"
      refine ⟨_, _, _, rfl, (by walk_at "bxa"), (by first | decide | omega), (by first | decide | omega), fun x o2 x0 x1 B2 => ?_⟩
      try rw [upd_upd] at B2 ⊢
      repeat walk_at "rd1"
      refine ⟨_, _, _, rfl, (by walk_at "bxa"), (by first | decide | omega), (by first | decide | omega), fun y o3 y0 y1 B3 => ?_⟩
      try rw [upd_upd] at B3 ⊢
      repeat walk_at "rd1"
      refine ⟨fun σ' H2 => ∃ (q : Int) (o : HO), σ' = [some (.ref b), some (.ref a), some (.int n), some (.int tall), some (.ref l), some (.int (0 + (i : Int))), some (.int p), some (.int q), some (.int (y - 1)), v9] ∧ H2 = upd H' b o ∧ Bx H2 b c, ?_, ?_⟩
      · repeat walk_at "rd1"
        refine ⟨_, _, _, rfl, (by walk_at "bxa"), (by first | decide | omega), (by first | decide | omega), fun z o4 z0 z1 B4 => ?_⟩
        try rw [upd_upd] at B4 ⊢
        repeat walk_at "rd1"
        refine ite2 (fun c1 => ?_) (fun c1 => ?_)
        · repeat walk_at "rd1"
          exact B4
        · exact ⟨_, o4, rfl, rfl, B4⟩
      rintro _ _ ⟨q, o5, rfl, rfl, B5⟩
      repeat walk_at "rd1"
      refine ⟨_, _, _, _, rfl, rfl, SqL.of (by walk_at "hpa"), ai, ?_⟩
      repeat walk_at "rd1"
      refine ⟨fun σ' H2 => ∃ (e : Bool) (o : HO), σ' = [some (.ref b), some (.ref a), some (.int n), some (.int tall), some (.ref l), some (.int (0 + (i : Int))), some (.int p), some (.int q), some (.int (y - 1)), some (.bl e)] ∧ H2 = upd H' b o ∧ Bx H2 b c, ?_, ?_⟩
      · repeat walk_at "rd1"
        refine ⟨_, _, _, rfl, (by walk_at "bxa"), (by first | decide | omega), (by first | decide | omega), fun z o6 z0 z1 B6 => ?_⟩
        try rw [upd_upd] at B6 ⊢
        repeat walk_at "rd1"
        refine ite2 (fun c1 => ?_) (fun c1 => ?_)
        · repeat walk_at "rd1"
          exact B6
        · exact ⟨_, o6, rfl, rfl, B6⟩
      rintro _ _ ⟨e, o7, rfl, rfl, B7⟩
      have kp7 : Kept b H (upd H' b o7) := Kept.take kp
      have R7 : Rws (upd H' b o7) us rows := hR.kept B0 (Kept.take Kept.refl)
      have l7 : upd H' b o7 l = some (.lst (us.map V.ref)) := by walk_at "hpa"
      generalize hG : upd H' b o7 = H7 at B7 kp7 R7 l7 ⊢
      refine ⟨_, rfl, .inl ⟨rfl, _, SqL.of l7⟩, ?_⟩
      repeat walk_at "rd1"
      refine ⟨(by first | decide | (simp only [List.length_cons, List.length_nil]; decide)), fun t ht => ?_⟩
      refine ⟨l, _, _, rfl, rfl, by walk_at "hpa", ?_, ?_⟩
      · rw [List.length_map, sizeLine_eq]
        have := R7.len
        omega
      refine ⟨us ++ [t], rows ++ [(p, q, e)], _, _, _, _, _, rfl, (kp7.new ht).put hl, by walk_at "bxa", ?_, ?_, fun r hr => ?_, ?_⟩
      · rw [upd_same, List.map_append]
        rfl
      · refine Rws.put (xs := us.map V.ref) (Al.snoc (Al.mono R7 fun u r z => ?_) upd_same) (by walk_at "hpa")
        walk_at "hpa"
      · rcases List.mem_append.mp hr with h | h
        · exact ok r h
        · have e : r = (p, q, e) := by simpa using h
          subst e
          unfold okRow
          simp [p0, p1]
      · rw [List.length_append, hlen2]
        rfl
    · rintro σ' H' ⟨us, rows, v5, v6, v7, v8, v9, rfl, kp, B0, hl0, hR, ok, hlen2⟩
      repeat walk_at "rd1"
      exact k l us rows H' kp B0 hl hl0 hR ok hlen2
def sp_law_trials (K : PySem.W.Frag) : Sp := fun vs H Q _ => ∃ (l : Addr) (us : List Addr) (rows : List Row), vs = [.ref l] ∧ H l = some (.lst (us.map V.ref)) ∧ Rws H us rows ∧ rows.length ≤ 1000 ∧
  ∀ (p : Addr) (ts : List Addr) (H' : Hp), Same H H' → H p = none → H' p = some (.lst (ts.map V.ref)) → Trs K H' ts rows → Q (.ref p) H'
theorem ok_law_trials (T : Txt K mg) : FnOk PP w K mg base (L2.CX PP w) 3 (He.ga K "_law_trials") T.fd_law_trials ["_law_rows_here"] (sp_law_trials K) := by
  have G_TrialU_initU_4 : FnR PP w K mg base (L2.CX PP w) _ _ _ := (ok_TrialU_initU T).raw (b_TrialU_initU_4 T).2 (b_TrialU_initU_4 T).1
  refine T.F_law_trials.ok sc_law_trials (fun vs H Q E h => ?_) (fun cdv A outer s H vs Q E hr h => ?_)
  · obtain ⟨l, us, rows, rfl, _⟩ := h
    rfl
  · obtain ⟨l, us, rows, rfl, hl, hR, hle, k⟩ := h
    refine ⟨_, (pss_one (ps_ret (pe_lc (own := [("_law_row", 1)]) rfl sc_law_trials.nd (Cl.piL K (pv 0)) (blkOk_by (N := ["_law_rows_here", "_law_row"]) (sc := defScope s_law_trials) (by decide +kernel)) (fun _ _ _ _ _ => (pg_name (i := 1) sc_law_trials.nd rfl (by first | exact Or.inl rfl | exact Or.inr rfl))) (fun _ _ _ _ _ => pts_nil) (fun _ _ _ _ _ => (Cl.pe_mk T.mk_Trial G_TrialU_initU_4 (hr.mono (by decide)) (by rfl) T.m_Trial (E := fun _ _ _ _ => False) (fun σ => Cl.none_ σ) (pa_cons (pe_ix (Cl.ixT K) (pv 1) pe_int (fun _ _ => rfl)) (pa_cons (pe_ix (Cl.ixT K) (pv 1) pe_int (fun _ _ => rfl)) (pa_cons (pe_ix (Cl.ixT K) (pv 1) pe_int (fun _ _ => rfl)) pa_nil)))))))), ?_⟩
    refine ⟨_, rfl, l, rfl, ⟨_, SqL.of hl⟩, fun D hD => ?_⟩
    refine lc_it (walk_list (xs := us.map V.ref)) (fun i H' => Same H H' ∧ ∃ ts, H' D = some (.lst (ts.map V.ref)) ∧ Trs K H' ts (rows.take i)) ⟨Same.put' (Same.refl H) hD, [], upd_same, .nil⟩ (fun i H' _ z => SqL.of (z.1 _ _ hl)) ?_ ?_
    · rintro i x _ H1 hi ⟨s1, ts, d1, t1⟩ ⟨rfl, e1⟩
      obtain ⟨u, hu, rfl⟩ := map_get' e1
      rw [List.length_map, hR.len] at hi
      have hr := List.getElem?_eq_getElem hi
      have hu1 := s1 _ _ (hR.get i u rows[i] hu hr)
      unfold rowO at hu1
      refine ⟨rfl, ?_⟩
      repeat walk_at "rd1"
      intro x dx hx hd hne
      refine ⟨x, dx, (rows[i].1, rows[i].2.1, rows[i].2.2), rfl, upd_same, rfl, ?_⟩
      rw [upd_upd]
      obtain ⟨s2, t2⟩ := tr_new (K := K) (r := (rows[i].1, rows[i].2.1, rows[i].2.2)) hx hd hne
      generalize hG : upd (upd _ dx (.own x)) x _ = H2 at s2 t2 ⊢
      clear hG hd hne
      clear dx
      have d2 := s2 _ _ d1
      have hxD : x ≠ D := Ne.symm (ne_of_none d1 hx)
      refine ⟨_, d2, ?_, Same.put' (Same.trans s1 s2) hD, ts ++ [x], ?_, ?_⟩
      · have := t1.len
        rw [List.length_take] at this
        rw [List.length_map, sizeLine_eq]
        omega
      · rw [upd_same, List.map_append]
        rfl
      · rw [take_more hr]
        have keep : ∀ u r, IsTr K H2 u r → IsTr K (upd H2 D (.lst (ts.map V.ref ++ [V.ref x]))) u r := fun u r ⟨dx, z⟩ => ⟨dx, by rw [upd_ne (fun q => by rw [q, d2] at z; cases z)]; exact z⟩
        exact Al.snoc (Al.mono (t1.same s2) keep) (keep _ _ t2)
    · rintro H' ⟨s1, ts, d1, t1⟩
      rw [List.length_map, hR.len, List.take_length] at t1
      exact k D ts H' s1 hD d1 t1
def sp_law_rows (K : PySem.W.Frag) : Sp := fun vs H Q _ => ∃ (l : Addr) (ts : List Addr) (rows : List Row), vs = [.ref l] ∧ H l = some (.lst (ts.map V.ref)) ∧ Trs K H ts rows ∧ rows.length ≤ 1000 ∧
  ∀ (p : Addr) (us : List Addr) (H' : Hp), Same H H' → H p = none → H' p = some (.lst (us.map V.ref)) → Rws H' us rows → Q (.ref p) H'
theorem ok_law_rows (T : Txt K mg) : FnOk PP w K mg base (L2.CX PP w) 1 (He.ga K "_law_rows") T.fd_law_rows ["_law_trials_here"] (sp_law_rows K) := by
  have cT := T.cl_Trial
  have n1 := T.na_Trial_place
  have n2 := T.na_Trial_height
  have n3 := T.na_Trial_reached
  refine T.F_law_rows.ok sc_law_rows (fun vs H Q E h => ?_) (fun cdv A outer s H vs Q E hr h => ?_)
  · obtain ⟨l, us, rows, rfl, _⟩ := h
    rfl
  · obtain ⟨l, us, rows, rfl, hl, hT, hle, k⟩ := h
    refine ⟨_, (pss_one (ps_ret (pe_lc (own := [("_law_trial", 1)]) rfl sc_law_rows.nd (Cl.piL K (pv 0)) (blkOk_by (N := ["_law_trials_here", "_law_trial"]) (sc := defScope s_law_rows) (by decide +kernel)) (fun _ _ _ _ _ => (pg_name (i := 1) sc_law_rows.nd rfl (by first | exact Or.inl rfl | exact Or.inr rfl))) (fun _ _ _ _ _ => pts_nil) (fun _ _ _ _ _ => (pe_tup (pa_cons (Cl.fld K (pv 1)) (pa_cons (Cl.fld K (pv 1)) (pa_cons (Cl.fld K (pv 1)) pa_nil)))))))), ?_⟩
    refine ⟨_, rfl, l, rfl, ⟨_, SqL.of hl⟩, fun D hD => ?_⟩
    refine lc_it (walk_list (xs := us.map V.ref)) (fun i H' => Same H H' ∧ ∃ ts, H' D = some (.lst (ts.map V.ref)) ∧ Rws H' ts (rows.take i)) ⟨Same.put' (Same.refl H) hD, [], upd_same, .nil⟩ (fun i H' _ z => SqL.of (z.1 _ _ hl)) ?_ ?_
    · rintro i x _ H1 hi ⟨s1, ts, d1, t1⟩ ⟨rfl, e1⟩
      obtain ⟨u, hu, rfl⟩ := map_get' e1
      rw [List.length_map, hT.len] at hi
      have hr := List.getElem?_eq_getElem hi
      obtain ⟨dx, hu1⟩ := (hT.get i u rows[i] hu hr).same s1
      unfold trO at hu1
      refine ⟨rfl, ?_⟩
      repeat walk_at "rd1"
      refine ⟨(by first | decide | (simp only [List.length_cons, List.length_nil]; decide)), fun t ht => ?_⟩
      have d2 : upd H1 t (.tup [.int rows[i].1, .int rows[i].2.1, .bl rows[i].2.2]) D = some (.lst (ts.map V.ref)) := by walk_at "hpa"
      refine ⟨_, d2, ?_, Same.put' (Same.new' s1 ht) hD, ts ++ [t], ?_, ?_⟩
      · have := t1.len
        rw [List.length_take] at this
        rw [List.length_map, sizeLine_eq]
        omega
      · rw [upd_same, List.map_append]
        rfl
      · rw [take_more hr]
        refine Rws.put (Al.snoc (Al.mono t1 fun u r z => ?_) upd_same) d2
        walk_at "hpa"
    · rintro H' ⟨s1, ts, d1, t1⟩
      rw [List.length_map, hT.len, List.take_length] at t1
      exact k D ts H' s1 hD d1 t1
def sp_law_outcome (K : PySem.W.Frag) : Sp := fun vs H Q _ => ∃ (l a : Addr) (us : List Addr) (rows : List Row) (hs : List Int), vs = [.ref l, .ref a] ∧ H l = some (.lst (us.map V.ref)) ∧ Trs K H us rows ∧ rows.length ≤ 1000 ∧ H a = some (.lst (hs.map V.int)) ∧
  (∀ r, rows.find? (fun r => !okRow hs.length r) = some r → NewT H Q [.str "NoPlace", .int r.1]) ∧ ((∀ r ∈ rows, okRow hs.length r = true) → NewL H Q ((misN hs rows rows.length).map V.int))
theorem ok_law_outcome (T : Txt K mg) : FnOk PP w K mg base (L2.CX PP w) 3 (He.ga K "_law_outcome") T.fd_law_outcome ["_law_trials_here", "_law_heights"] (sp_law_outcome K) := by
  have G_misread_numbers_2 : FnR PP w K mg base (L2.CX PP w) _ _ _ := (ok_misread_numbers T).raw (b_misread_numbers_2 T).2 (b_misread_numbers_2 T).1
  refine T.F_law_outcome.ok sc_law_outcome (fun vs H Q E h => ?_) (fun cdv A outer s H vs Q E hr h => ?_)
  · obtain ⟨l, a, us, rows, hs, rfl, _⟩ := h
    rfl
  · obtain ⟨l, a, us, rows, hs, rfl, hl, hT, hle, ha, k1, k2⟩ := h
    refine ⟨_, (pss_one (ps_try_as (i := 2) rfl rfl sc_law_outcome.nd rfl rfl ⟨rfl, by decide, Or.inl T.m_NoPlace⟩ (takes_of rfl rfl rfl rfl)
      (fun W pn xe tk _ => (pss_one (ps_ret (Cl.pe_f G_misread_numbers_2 (hr.mono (by decide)) (by rfl) T.m_misread_numbers T.F_misread_numbers.kp (fun σ => Cl.at_ tk σ) (pa_cons (pv 0) (pa_cons (pv 1) pa_nil))))))
      (fun a oe cls d pn hz hf => (pss_one (ps_ret (pe_tup (pa_cons pe_str (pa_cons (pe_xf (errXf T.er_NoPlace) T.er_NoPlace.noN hz hf (pv 2)) pa_nil)))))))), ?_⟩
    refine ⟨_, rfl, _, rfl, l, a, us, rows, hs, rfl, .inl hl, hT, hle, ha, fun r hr H' s' d hd => ?_, k2⟩
    refine ⟨true, T.xm_NoPlace_NoPlace, fun _ a0 _ => ?_, fun q => Bool.noConfusion q⟩
    refine ⟨_, rfl, rfl, rfl, d, _, _, rfl, upd_same, rfl, by show 2 ≤ sizeLine; decide, fun p hp => ?_⟩
    exact (k1 r hr).go (fun b o e => by rw [upd_ne (ne_of_none (s' b o e) hd)]; exact s' b o e) hp
theorem Trs.kept {K : PySem.W.Frag} {b c : Addr} {H H' : Hp} {us : List Addr} {rows : List Row} (h : Trs K H us rows) (hb : Bx H b c) (s : Kept b H H') : Trs K H' us rows := by
  obtain ⟨xs, e⟩ := hb.lst
  exact Al.mono h fun u r ⟨dx, z⟩ => ⟨dx, s u _ (fun q => by rw [q, e] at z; cases z) z⟩
theorem find_ins {α : Type} {p : α → Bool} {l : List α} {i : Nat} {x y : α} (h : ∀ a ∈ l, p a = false) (hx : p x = true) : (l.take i ++ [x] ++ l.drop i ++ [y]).find? p = some x := by
  rw [List.append_assoc, List.append_assoc, List.find?_append, List.find?_eq_none.mpr fun a ha => by rw [h a (List.mem_of_mem_take ha)]; decide]
  simp [hx]
def sp_law (K : PySem.W.Frag) : Sp := fun vs H Q _ => ∃ (a : Addr) (ns : List Int), vs = [.ref a] ∧ SqL K H a (ns.map V.int) ∧ ns.length ≤ 63 ∧ ∀ H', Q (.bl true) H'
theorem ok_law (T : Txt K mg) : FnOk PP w K mg base (L2.CX PP w) 4 (He.ga K "law") T.fd_law ["_law_script"] (sp_law K) := by
  have G_law_box_1 : FnR PP w K mg base (L2.CX PP w) _ _ _ := (ok_law_box T).raw (b_law_box_1 T).2 (b_law_box_1 T).1
  have G_law_numbers_2 : FnR PP w K mg base (L2.CX PP w) _ _ _ := (ok_law_numbers T).raw (b_law_numbers_2 T).2 (b_law_numbers_2 T).1
  have G_law_outcome_2 : FnR PP w K mg base (L2.CX PP w) _ _ _ := (ok_law_outcome T).raw (b_law_outcome_2 T).2 (b_law_outcome_2 T).1
  have G_law_rows_1 : FnR PP w K mg base (L2.CX PP w) _ _ _ := (ok_law_rows T).raw (b_law_rows_1 T).2 (b_law_rows_1 T).1
  have G_law_take_2 : FnR PP w K mg base (L2.CX PP w) _ _ _ := (ok_law_take T).raw (b_law_take_2 T).2 (b_law_take_2 T).1
  have G_law_trials_1 : FnR PP w K mg base (L2.CX PP w) _ _ _ := (ok_law_trials T).raw (b_law_trials_1 T).2 (b_law_trials_1 T).1
  have G_law_tries_4 : FnR PP w K mg base (L2.CX PP w) _ _ _ := (ok_law_tries T).raw (b_law_tries_4 T).2 (b_law_tries_4 T).1
  have G_misread_numbers_2 : FnR PP w K mg base (L2.CX PP w) _ _ _ := (ok_misread_numbers T).raw (b_misread_numbers_2 T).2 (b_misread_numbers_2 T).1
  have G_pinned_2 : FnR PP w K mg base (L2.CX PP w) _ _ _ := (ok_pinned T).raw (b_pinned_2 T).2 (b_pinned_2 T).1
  refine T.F_law.ok sc_law (fun vs H Q E h => ?_) (fun cdv A outer s H vs Q E hr h => ?_)
  · obtain ⟨a, ns, rfl, _⟩ := h
    rfl
  · obtain ⟨a, ns, rfl, hS, hl, k⟩ := h
    refine ⟨_, (pss_cons (ps_set (i := 1) sc_law.nd rfl (by first | exact Or.inl rfl | exact Or.inr rfl) (Cl.pe_f G_law_box_1 (hr.mono (by decide)) (by rfl) T.m__law_box T.F_law_box.kp (fun σ => Cl.at_ (takes_of rfl rfl rfl rfl) σ) (pa_cons (pv 0) pa_nil)))
      (Evl.pss_cut (ps_set (i := 2) sc_law.nd rfl (by first | exact Or.inl rfl | exact Or.inr rfl) (pe_ix (Cl.ixL K) (pe_lst (pa_cons pe_int (pa_cons (pe_op op_pow pe_int pe_int) pa_nil))) (Cl.pe_f G_law_take_2 (hr.mono (by decide)) (by rfl) T.m__law_take T.F_law_take.kp (fun σ => Cl.at_ (takes_of rfl rfl rfl rfl) σ) (pa_cons (pv 1) (pa_cons pe_int pa_nil))) (fun _ _ => rfl)))
      (Evl.pss_cut (ps_set (i := 4) sc_law.nd rfl (by first | exact Or.inl rfl | exact Or.inr rfl) (pe_lc (own := [("_law_k", 3)]) rfl sc_law.nd (pi_range1 (by rfl) T.n_range (pa_cons (pe_op op_add pe_int (Cl.pe_f G_law_take_2 (hr.mono (by decide)) (by rfl) T.m__law_take T.F_law_take.kp (fun σ => Cl.at_ (takes_of rfl rfl rfl rfl) σ) (pa_cons (pv 1) (pa_cons pe_int pa_nil)))) pa_nil)) (blkOk_by (N := ["_law_script", "_law_box_here", "_law_tall", "_law_k", "_law_heights", "_law_rows_here", "_law_strange", "_law_odd", "_law_trials_here", "_law_passed", "_law_told", "_law_due", "_law_place", "_law_pins", "_law_near"]) (sc := defScope s_law) (by decide +kernel)) (fun _ _ _ _ _ => (pg_name (i := 3) sc_law.nd rfl (by first | exact Or.inl rfl | exact Or.inr rfl))) (fun _ _ _ _ _ => pts_nil) (fun _ _ _ _ _ => (Cl.pe_f G_law_take_2 (hr.mono (by decide)) (by rfl) T.m__law_take T.F_law_take.kp (E := fun _ _ _ _ => False) (fun σ => Cl.none_ σ) (pa_cons (pv 1) (pa_cons (pe_op op_add (pv 2) pe_int) pa_nil))))))
      (pss_cons (ps_set (i := 5) sc_law.nd rfl (by first | exact Or.inl rfl | exact Or.inr rfl) (Cl.pe_f G_law_tries_4 (hr.mono (by decide)) (by rfl) T.m__law_tries T.F_law_tries.kp (fun σ => Cl.at_ (takes_of rfl rfl rfl rfl) σ) (pa_cons (pv 1) (pa_cons (pv 4) (pa_cons (Cl.pe_f G_law_take_2 (hr.mono (by decide)) (by rfl) T.m__law_take T.F_law_take.kp (fun σ => Cl.at_ (takes_of rfl rfl rfl rfl) σ) (pa_cons (pv 1) (pa_cons pe_int pa_nil))) (pa_cons (pv 2) pa_nil))))))
      (Evl.pss_cut (ps_if (PW.pt (pw_and (pt_cmpR op_gt (pe_callB (id := "len") (Cl.len K) (by rfl) T.n_len (by decide +kernel) (pa_cons (pv 5) pa_nil)) pe_int (nomark _)) (pw_and1 (pt_cmpR op_eq (Cl.pe_f G_law_take_2 (hr.mono (by decide)) (by rfl) T.m__law_take T.F_law_take.kp (fun σ => Cl.at_ (takes_of rfl rfl rfl rfl) σ) (pa_cons (pv 1) (pa_cons pe_int pa_nil))) pe_int (nomark _)))))
      (pss_one (ps_expr (pe_bm PySem.F.plainAttrs_list PySem.F.slot_list_append PySem.F.type_list_append mt_append (pv 5) (pa_cons (pe_ix (Cl.ixL K) (pv 5) (Cl.pe_f G_law_take_2 (hr.mono (by decide)) (by rfl) T.m__law_take T.F_law_take.kp (fun σ => Cl.at_ (takes_of rfl rfl rfl rfl) σ) (pa_cons (pv 1) (pa_cons (pe_callB (id := "len") (Cl.len K) (by rfl) T.n_len (by decide +kernel) (pa_cons (pv 5) pa_nil)) pa_nil))) (fun _ _ => rfl)) pa_nil))))
      pss_nil)
      (pss_cons (ps_set (i := 6) sc_law.nd rfl (by first | exact Or.inl rfl | exact Or.inr rfl) (pe_lst pa_nil))
      (Evl.pss_cut (ps_if (pt_cmpR op_eq (Cl.pe_f G_law_take_2 (hr.mono (by decide)) (by rfl) T.m__law_take T.F_law_take.kp (fun σ => Cl.at_ (takes_of rfl rfl rfl rfl) σ) (pa_cons (pv 1) (pa_cons pe_int pa_nil))) pe_int (nomark _))
      (pss_cons (ps_set (i := 7) sc_law.nd rfl (by first | exact Or.inl rfl | exact Or.inr rfl) (pe_ix (Cl.ixL K) (pe_lst (pa_cons (pe_callB (id := "len") (Cl.len K) (by rfl) T.n_len (by decide +kernel) (pa_cons (pv 4) pa_nil)) (pa_cons (pe_op op_add (pe_callB (id := "len") (Cl.len K) (by rfl) T.n_len (by decide +kernel) (pa_cons (pv 4) pa_nil)) pe_int) (pa_cons (pe_op op_sub (pe_un un_neg pe_int) (Cl.pe_f G_law_take_2 (hr.mono (by decide)) (by rfl) T.m__law_take T.F_law_take.kp (fun σ => Cl.at_ (takes_of rfl rfl rfl rfl) σ) (pa_cons (pv 1) (pa_cons (pe_callB (id := "len") (Cl.len K) (by rfl) T.n_len (by decide +kernel) (pa_cons (pv 4) pa_nil)) pa_nil)))) pa_nil)))) (Cl.pe_f G_law_take_2 (hr.mono (by decide)) (by rfl) T.m__law_take T.F_law_take.kp (fun σ => Cl.at_ (takes_of rfl rfl rfl rfl) σ) (pa_cons (pv 1) (pa_cons pe_int pa_nil))) (fun _ _ => rfl)))
      (pss_cons (ps_expr (pe_bm PySem.F.plainAttrs_list PySem.F.slot_list_insert PySem.F.type_list_insert mt_insert (pv 5) (pa_cons (Cl.pe_f G_law_take_2 (hr.mono (by decide)) (by rfl) T.m__law_take T.F_law_take.kp (fun σ => Cl.at_ (takes_of rfl rfl rfl rfl) σ) (pa_cons (pv 1) (pa_cons (pe_op op_add (pe_callB (id := "len") (Cl.len K) (by rfl) T.n_len (by decide +kernel) (pa_cons (pv 5) pa_nil)) pe_int) pa_nil))) (pa_cons (pe_tup (pa_cons (pv 7) (pa_cons pe_int (pa_cons pe_bl pa_nil)))) pa_nil))))
      (pss_cons (ps_set (i := 6) sc_law.nd rfl (by first | exact Or.inl rfl | exact Or.inr rfl) (pe_lst (pa_cons (pv 7) pa_nil)))
      (pss_one (ps_expr (pe_bm PySem.F.plainAttrs_list PySem.F.slot_list_append PySem.F.type_list_append mt_append (pv 5) (pa_cons (pe_tup (pa_cons (pe_op op_add (pv 7) pe_int) (pa_cons pe_int (pa_cons pe_bl pa_nil)))) pa_nil)))))))
      pss_nil)
      (pss_cons (ps_set (i := 8) sc_law.nd rfl (by first | exact Or.inl rfl | exact Or.inr rfl) (Cl.pe_f G_law_trials_1 (hr.mono (by decide)) (by rfl) T.m__law_trials T.F_law_trials.kp (fun σ => Cl.at_ (takes_of rfl rfl rfl rfl) σ) (pa_cons (pv 5) pa_nil)))
      (pss_cons (ps_set (i := 9) sc_law.nd rfl (by first | exact Or.inl rfl | exact Or.inr rfl) (pe_callTy (T := "list") (Cl.listOf K) (by rfl) T.n_list (by decide +kernel) (pa_cons (pv 4) pa_nil)))
      (Evl.pss_cut (ps_set (i := 10) sc_law.nd rfl (by first | exact Or.inl rfl | exact Or.inr rfl) (Cl.pe_f G_law_outcome_2 (hr.mono (by decide)) (by rfl) T.m__law_outcome T.F_law_outcome.kp (fun σ => Cl.at_ (takes_of rfl rfl rfl rfl) σ) (pa_cons (pv 8) (pa_cons (pv 9) pa_nil))))
      (Evl.pss_cut (ps_if (PW.pt (pw_or (pt_cmpR (Cl.neD K hr.units) (pv 9) (pv 4) (nomark _)) (pw_or1 (pt_cmpR (Cl.neD K hr.units) (Cl.pe_f G_law_rows_1 (hr.mono (by decide)) (by rfl) T.m__law_rows T.F_law_rows.kp (fun σ => Cl.at_ (takes_of rfl rfl rfl rfl) σ) (pa_cons (pv 8) pa_nil)) (pv 5) (nomark _)))))
      (pss_one (ps_ret pe_bl))
      pss_nil)
      (Evl.pss_cut (ps_if (pt_cmpR op_gt (pe_callB (id := "len") (Cl.len K) (by rfl) T.n_len (by decide +kernel) (pa_cons (pv 6) pa_nil)) pe_int (nomark _))
      (pss_one (ps_if (pt_cmpR (Cl.neD K hr.units) (pv 10) (pe_tup (pa_cons pe_str (pa_cons (pe_ix (Cl.ixL K) (pv 6) pe_int (fun _ _ => rfl)) pa_nil))) (nomark _))
      (pss_one (ps_ret pe_bl))
      pss_nil))
      (pss_cons (ps_setLc (i := 11) (own := [("_law_k", 3)]) rfl sc_law.nd rfl rfl (sw_true rfl rfl rfl (by decide +kernel)) (pi_range1 (by rfl) T.n_range (pa_cons (pe_callB (id := "len") (Cl.len K) (by rfl) T.n_len (by decide +kernel) (pa_cons (pv 5) pa_nil)) pa_nil)) (blkOk_by (N := ["_law_script", "_law_box_here", "_law_tall", "_law_k", "_law_heights", "_law_rows_here", "_law_strange", "_law_odd", "_law_trials_here", "_law_passed", "_law_told", "_law_due", "_law_place", "_law_pins", "_law_near"]) (sc := defScope s_law) (by decide +kernel)) (fun _ _ _ _ _ => (pg_name (i := 3) sc_law.nd rfl (by first | exact Or.inl rfl | exact Or.inr rfl))) (fun _ _ _ _ _ => (pts_one (pt_cmpR op_ne (pe_cmpR op_le (pe_ix (Cl.ixL K) (pv 4) (pe_ix (Cl.ixT K) (pe_ix (Cl.ixL K) (pv 5) (pv 3) (fun _ _ => rfl)) pe_int (fun _ _ => rfl)) (fun _ _ => rfl)) (pe_ix (Cl.ixT K) (pe_ix (Cl.ixL K) (pv 5) (pv 3) (fun _ _ => rfl)) pe_int (fun _ _ => rfl)) (nomark _)) (pe_ix (Cl.ixT K) (pe_ix (Cl.ixL K) (pv 5) (pv 3) (fun _ _ => rfl)) pe_int (fun _ _ => rfl)) (nomark _)))) (fun _ _ _ _ _ => (pv 3)))
      (pss_one (ps_if (PW.pt (pw_or (pt_not (pt_val (Cl.pe_f G_law_numbers_2 (hr.mono (by decide)) (by rfl) T.m__law_numbers T.F_law_numbers.kp (fun σ => Cl.at_ (takes_of rfl rfl rfl rfl) σ) (pa_cons (pv 10) (pa_cons (pv 11) pa_nil))))) (pw_or1 (pt_not (pt_val (Cl.pe_f G_law_numbers_2 (hr.mono (by decide)) (by rfl) T.m__law_numbers T.F_law_numbers.kp (fun σ => Cl.at_ (takes_of rfl rfl rfl rfl) σ) (pa_cons (Cl.pe_f G_misread_numbers_2 (hr.mono (by decide)) (by rfl) T.m_misread_numbers T.F_misread_numbers.kp (fun σ => Cl.at_ (takes_of rfl rfl rfl rfl) σ) (pa_cons (pe_callTy (T := "tuple") (Cl.tupleOf K) (by rfl) T.n_tuple (by decide +kernel) (pa_cons (pv 8) pa_nil)) (pa_cons (pv 9) pa_nil))) (pa_cons (pv 11) pa_nil))))))))
      (pss_one (ps_ret pe_bl))
      pss_nil))))
      (pss_cons (ps_set (i := 12) sc_law.nd rfl (by first | exact Or.inl rfl | exact Or.inr rfl) (Cl.pe_f G_law_take_2 (hr.mono (by decide)) (by rfl) T.m__law_take T.F_law_take.kp (fun σ => Cl.at_ (takes_of rfl rfl rfl rfl) σ) (pa_cons (pv 1) (pa_cons (pe_callB (id := "len") (Cl.len K) (by rfl) T.n_len (by decide +kernel) (pa_cons (pv 4) pa_nil)) pa_nil))))
      (pss_cons (ps_set (i := 13) sc_law.nd rfl (by first | exact Or.inl rfl | exact Or.inr rfl) (Cl.pe_f G_pinned_2 (hr.mono (by decide)) (by rfl) T.m_pinned T.F_pinned.kp (fun σ => Cl.at_ (takes_of rfl rfl rfl rfl) σ) (pa_cons (pv 12) (pa_cons (pe_ix (Cl.ixL K) (pv 4) (pv 12) (fun _ _ => rfl)) pa_nil))))
      (pss_cons (ps_if (pt_not (pt_val (pe_callB (id := "isinstance") (Cl.isi K) (by rfl) T.n_isinstance (by decide +kernel) (pa_cons (pv 13) (pa_cons (pe_bltn (v := .ty "list") (u := .type "list") (by rfl) T.n_list (by decide +kernel) rfl) pa_nil)))))
      (pss_one (ps_ret pe_bl))
      pss_nil)
      (pss_cons (ps_if (pt_cmpR (Cl.neD K hr.units) (Cl.pe_f G_law_rows_1 (hr.mono (by decide)) (by rfl) T.m__law_rows T.F_law_rows.kp (fun σ => Cl.at_ (takes_of rfl rfl rfl rfl) σ) (pa_cons (pv 13) pa_nil)) (pe_lst (pa_cons (pe_tup (pa_cons (pv 12) (pa_cons (pe_ix (Cl.ixL K) (pv 4) (pv 12) (fun _ _ => rfl)) (pa_cons pe_bl pa_nil)))) (pa_cons (pe_tup (pa_cons (pv 12) (pa_cons (pe_op op_sub (pe_ix (Cl.ixL K) (pv 4) (pv 12) (fun _ _ => rfl)) pe_int) (pa_cons pe_bl pa_nil)))) pa_nil))) (nomark _))
      (pss_one (ps_ret pe_bl))
      pss_nil)
      (pss_cons (ps_set (i := 14) sc_law.nd rfl (by first | exact Or.inl rfl | exact Or.inr rfl) (pe_callTy (T := "list") (Cl.listOf K) (by rfl) T.n_list (by decide +kernel) (pa_cons (pv 4) pa_nil)))
      (pss_cons (ps_asg (pe_op op_sub (pe_op op_add (pe_ix (Cl.ixL K) (pv 14) (pv 12) (fun _ _ => rfl)) pe_int) (pe_op op_mul pe_int (Cl.pe_f G_law_take_2 (hr.mono (by decide)) (by rfl) T.m__law_take T.F_law_take.kp (fun σ => Cl.at_ (takes_of rfl rfl rfl rfl) σ) (pa_cons (pv 1) (pa_cons pe_int pa_nil))))) (pg_sub (pv 14) (pv 12) set_list))
      (pss_one (ps_ret (pe_and (pe_cmpR (Cl.eqD K hr.units) (Cl.pe_f G_misread_numbers_2 (hr.mono (by decide)) (by rfl) T.m_misread_numbers T.F_misread_numbers.kp (fun σ => Cl.at_ (takes_of rfl rfl rfl rfl) σ) (pa_cons (pv 13) (pa_cons (pv 9) pa_nil))) (pe_lst pa_nil) (nomark _)) (pe_one (pe_cmpR op_eq (pe_callB (id := "len") (Cl.len K) (by rfl) T.n_len (by decide +kernel) (pa_cons (Cl.pe_f G_misread_numbers_2 (hr.mono (by decide)) (by rfl) T.m_misread_numbers T.F_misread_numbers.kp (fun σ => Cl.at_ (takes_of rfl rfl rfl rfl) σ) (pa_cons (pv 13) (pa_cons (pv 14) pa_nil))) pa_nil)) pe_int (nomark _)))))))))))))))))))))))), ?_⟩
    refine ⟨_, rfl, a, ns, rfl, hS, fun H1 b c s1 nb nc B1 => ?_⟩
    -- tall
    refine ⟨fun σ' H' => ∃ tall : Int, σ' = [some (.ref a), some (.ref b), some (.int tall), none, none, none, none, none, none, none, none, none, none, none, none] ∧ 0 ≤ tall ∧ tall < 2 ^ 100 ∧ Bx H' b c, ?_, ?_⟩
    · repeat walk_at "rd1"
      refine ⟨(by first | decide | (simp only [List.length_cons, List.length_nil]; decide)), fun p hp => ?_⟩
      repeat walk_at "rd1"
      refine ⟨_, _, _, rfl, (by walk_at "bxa"), (by first | decide | omega), (by first | decide | omega), fun z o1 z0 z1 B2 => ?_⟩
      try rw [upd_upd] at B2 ⊢
      rcases (show z = 0 ∨ z = 1 by omega) with rfl | rfl
      · refine ⟨_, _, _, _, rfl, rfl, SqL.of (by walk_at "hpa"), rfl, ?_⟩
        exact ⟨_, rfl, by decide, by decide, B2⟩
      · refine ⟨_, _, _, _, rfl, rfl, SqL.of (by walk_at "hpa"), rfl, ?_⟩
        exact ⟨_, rfl, by decide, by decide, B2⟩
    clear s1 nb nc B1
    clear H1
    rintro _ H1 ⟨tall, rfl, t0, t1, B1⟩
    -- heights
    refine ⟨fun σ' H' => ∃ (D : Addr) (hs : List Int), σ' = [some (.ref a), some (.ref b), some (.int tall), none, some (.ref D), none, none, none, none, none, none, none, none, none, none] ∧ D ≠ b ∧ D ≠ c ∧ H' D = some (.lst (hs.map V.int)) ∧ 0 < hs.length ∧ hs.length ≤ 6 ∧ Bx H' b c, ?_, ?_⟩
    · repeat walk_at "rd1"
      refine ⟨_, _, _, rfl, (by walk_at "bxa"), (by first | decide | omega), (by first | decide | omega), fun z o1 z0 z1 B2 => ?_⟩
      try rw [upd_upd] at B2 ⊢
      repeat walk_at "rd1"
      refine ⟨by omega, by omega, fun D hD => ?_⟩
      have nDb : D ≠ b := by walk_at "nea"
      have nDc : D ≠ c := by walk_at "nea"
      refine lc_range (lo := 0) (n := (1 + z).toNat) (fun i H' => ∃ hs : List Int, Bx H' b c ∧ H' D = some (.lst (hs.map V.int)) ∧ hs.length = i) ⟨[], by walk_at "bxa", upd_same, rfl⟩ ?_ ?_
      · rintro i H' hi ⟨hs, B3, hD3, hlen⟩
        refine ⟨rfl, ?_⟩
        repeat walk_at "rd1"
        refine ⟨_, _, _, rfl, (by walk_at "bxa"), (by first | decide | omega), (by first | decide | omega), fun x o2 x0 x1 B4 => ?_⟩
        try rw [upd_upd] at B4 ⊢
        refine ⟨hs.map V.int, by walk_at "hpa", ?_, hs ++ [x], by walk_at "bxa", ?_, ?_⟩
        · rw [List.length_map, sizeLine_eq]
          omega
        · rw [upd_same, List.map_append]
          rfl
        · rw [List.length_append, hlen]
          rfl
      · rintro H' ⟨hs, B3, hD3, hlen⟩
        exact ⟨D, hs, rfl, nDb, nDc, hD3, by omega, by omega, B3⟩
    clear B1
    clear H1
    rintro _ H1 ⟨D, hs, rfl, nDb, nDc, hD, h0, h6, B1⟩
    have hlen : (hs.map V.int).length = hs.length := List.length_map ..
    -- rows
    repeat walk_at "rd1"
    refine ⟨_, _, _, rfl, (by walk_at "bxa"), (by first | decide | omega), (by first | decide | omega), fun z o1 z0 z1 B2 => ?_⟩
    try rw [upd_upd] at B2 ⊢
    repeat walk_at "rd1"
    refine ⟨b, c, D, z, tall, hs, rfl, B2, nDb, by walk_at "hpa", h0, by omega, z0, by omega, t0, by omega, fun l us rows H2 kp B3 hl0 hl hR ok hrl => ?_⟩
    have hD2 : H2 D = some (.lst (hs.map V.int)) := kp _ _ nDb (by walk_at "hpa")
    have nlb : l ≠ b := by walk_at "nea"
    have nlc : l ≠ c := by walk_at "nea"
    have nlD : l ≠ D := by
      have z : upd H1 b o1 D = some (.lst (hs.map V.int)) := by walk_at "hpa"
      exact Ne.symm (ne_of_none z hl0)
    have hr15 : rows.length ≤ 14 := by omega
    clear hrl kp hl0 B2
    clear hD
    clear B1
    clear o1 H1
    refine ⟨fun σ' H' => ∃ (us : List Addr) (rows : List Row), σ' = [some (.ref a), some (.ref b), some (.int tall), none, some (.ref D), some (.ref l), none, none, none, none, none, none, none, none, none] ∧ H' D = some (.lst (hs.map V.int)) ∧ Bx H' b c ∧ H' l = some (.lst (us.map V.ref)) ∧ Rws H' us rows ∧ (∀ r ∈ rows, okRow hs.length r = true) ∧ rows.length ≤ 15, ?_, ?_⟩
    · have hul : (us.map V.ref).length = rows.length := by rw [List.length_map, hR.len]
      repeat walk_at "rd1"
      rw [hul]
      refine ite2 (fun c1 => ?_) (fun c1 => ?_)
      · have c1' := dec_t c1
        repeat walk_at "rd1"
        refine ⟨_, _, _, rfl, (by walk_at "bxa"), (by first | decide | omega), (by first | decide | omega), fun x o2 x0 x1 B4 => ?_⟩
        try rw [upd_upd] at B4 ⊢
        repeat walk_at "rd1"
        refine ite2 (fun c2 => ?_) (fun c2 => ?_)
        · refine ⟨_, rfl, .inl ⟨rfl, _, SqL.of (xs := us.map V.ref) (by walk_at "hpa")⟩, ?_⟩
          repeat walk_at "rd1"
          rw [hul]
          refine ⟨_, _, _, rfl, (by walk_at "bxa"), (by first | decide | omega), (by first | decide | omega), fun y o3 y0 y1 B5 => ?_⟩
          try rw [upd_upd] at B5 ⊢
          rw [← hR.len] at y1
          have e1 := at_in (f := V.ref) (l := us) (d := 0) y0 y1
          refine ⟨_, _, _, _, rfl, rfl, SqL.of (by walk_at "hpa"), e1, ?_⟩
          refine ⟨l, _, _, rfl, rfl, by walk_at "hpa", ?_, ?_⟩
          · rw [hul, sizeLine_eq]
            omega
          · have hy : y.toNat < us.length := by omega
            have hy2 : y.toNat < rows.length := by rw [← hR.len]; exact hy
            have R5 : Rws (upd H2 b o3) us rows := hR.kept B3 (Kept.take Kept.refl)
            refine ⟨us ++ [us.getD y.toNat 0], rows ++ [rows[y.toNat]], rfl, by walk_at "hpa", by walk_at "bxa", ?_, ?_, fun r hr => ?_, ?_⟩
            · rw [upd_same, List.map_append]
              rfl
            · refine Rws.put (xs := us.map V.ref) (Al.snoc R5 ?_) (by walk_at "hpa")
              exact R5.get y.toNat _ _ (by rw [List.getD_eq_getElem?_getD, List.getElem?_eq_getElem hy]; rfl) (List.getElem?_eq_getElem hy2)
            · rcases List.mem_append.mp hr with h | h
              · exact ok r h
              · have e : r = rows[y.toNat] := by simpa using h
                rw [e]
                exact ok _ (List.getElem_mem _)
            · rw [List.length_append]
              show rows.length + 1 ≤ 15
              omega
        · exact ⟨us, rows, rfl, by walk_at "hpa", B4, by walk_at "hpa", hR.kept B3 (Kept.take Kept.refl), ok, by omega⟩
      · exact ⟨us, rows, rfl, hD2, B3, hl, hR, ok, by omega⟩
    clear hD2 B3 hl hR ok hr15
    clear us rows H2
    rintro _ H1 ⟨us, rows, rfl, hD, B1, hl, hR, ok, hr15⟩
    -- strange
    refine ⟨(by first | decide | (simp only [List.length_cons, List.length_nil]; decide)), fun st hst => ?_⟩
    have nsb : st ≠ b := by walk_at "nea"
    have nsl : st ≠ l := by walk_at "nea"
    have nsD : st ≠ D := by walk_at "nea"
    let Ok : List Int → List Row → Prop := fun odds rows => (odds = [] ∧ ∀ r ∈ rows, okRow hs.length r = true) ∨ ∃ o, odds = [o] ∧ rows.find? (fun r => !okRow hs.length r) = some (o, 3, true)
    refine ⟨fun σ' H' => ∃ (st : Addr) (odds : List Int) (us : List Addr) (rows : List Row) (v7 : Option V), σ' = [some (.ref a), some (.ref b), some (.int tall), none, some (.ref D), some (.ref l), some (.ref st), v7, none, none, none, none, none, none, none] ∧ H' D = some (.lst (hs.map V.int)) ∧ Bx H' b c ∧ H' l = some (.lst (us.map V.ref)) ∧ Rws H' us rows ∧ rows.length ≤ 17 ∧ H' st = some (.lst (odds.map V.int)) ∧ Ok odds rows, ?_, ?_⟩
    · have R1 : Rws (upd H1 st (.lst [])) us rows := Al.mono hR fun u r z => by walk_at "hpa"
      have l1 : upd H1 st (.lst []) l = some (.lst (us.map V.ref)) := by walk_at "hpa"
      have D1 : upd H1 st (.lst []) D = some (.lst (hs.map V.int)) := by walk_at "hpa"
      have B2 : Bx (upd H1 st (.lst [])) b c := by walk_at "bxa"
      have st1 : upd H1 st (.lst []) st = some (.lst (([] : List Int).map V.int)) := upd_same
      generalize hG : upd H1 st (.lst []) = H2 at R1 l1 D1 B2 st1 ⊢
      clear hG hst hl hD hR B1
      clear H1
      repeat walk_at "rd1"
      refine ⟨_, _, _, rfl, (by walk_at "bxa"), (by first | decide | omega), (by first | decide | omega), fun x o1 x0 x1 B3 => ?_⟩
      try rw [upd_upd] at B3 ⊢
      repeat walk_at "rd1"
      refine ite2 (fun c1 => ?_) (fun c1 => ?_)
      · repeat walk_at "rd1"
        rw [hlen]
        refine ⟨_, _, _, rfl, (by walk_at "bxa"), (by first | decide | omega), (by first | decide | omega), fun y o2 y0 y1 B4 => ?_⟩
        try rw [upd_upd] at B4 ⊢
        repeat walk_at "rd1"
        refine ⟨(by first | decide | (simp only [List.length_cons, List.length_nil]; decide)), fun q hq => ?_⟩
        repeat walk_at "rd1"
        refine ⟨_, _, _, rfl, (by walk_at "bxa"), (by first | decide | omega), (by first | decide | omega), fun z o3 z0 z1 B5 => ?_⟩
        try rw [upd_upd] at B5 ⊢
        have nqb : q ≠ b := by walk_at "nea"
        have nql : q ≠ l := by walk_at "nea"
        have nqD : q ≠ D := by walk_at "nea"
        have R5 : Rws (upd (upd (upd H2 b o2) q (.lst [.int hs.length, .int (hs.length + 7), .int (-1 - y)])) b o3) us rows :=
          ((R1.kept B2 (Kept.take Kept.refl)).kept B4 ((Kept.new Kept.refl hq).trans (Kept.take Kept.refl)))
        have key : ∃ odd : Int, atI [V.int hs.length, .int (hs.length + 7), .int (-1 - y)] z = some (V.int odd) ∧ okRow hs.length (odd, 3, true) = false := by
          rcases (show z = 0 ∨ z = 1 ∨ z = 2 by omega) with rfl | rfl | rfl
          · exact ⟨_, rfl, by unfold okRow; simp⟩
          · exact ⟨_, rfl, by unfold okRow; simp; omega⟩
          · exact ⟨_, rfl, by unfold okRow; simp; omega⟩
        obtain ⟨odd, e1, e2⟩ := key
        have l5 : (upd (upd (upd H2 b o2) q (.lst [.int hs.length, .int (hs.length + 7), .int (-1 - y)])) b o3) l = some (.lst (us.map V.ref)) := by walk_at "hpa"
        have D5 : (upd (upd (upd H2 b o2) q (.lst [.int hs.length, .int (hs.length + 7), .int (-1 - y)])) b o3) D = some (.lst (hs.map V.int)) := by walk_at "hpa"
        have q5 : (upd (upd (upd H2 b o2) q (.lst [.int hs.length, .int (hs.length + 7), .int (-1 - y)])) b o3) q = some (.lst [.int hs.length, .int (hs.length + 7), .int (-1 - y)]) := by walk_at "hpa"
        generalize hG : upd (upd (upd H2 b o2) q _) b o3 = H5 at B5 R5 l5 D5 q5 ⊢
        refine ⟨_, _, _, _, rfl, rfl, SqL.of q5, e1, ?_⟩
        clear hG q5 nqb nql nqD hq B4 B3 R1 l1 D1 B2 st1
        have hul : (us.map V.ref).length = rows.length := by rw [List.length_map, R5.len]
        refine ⟨_, rfl, .inl ⟨rfl, _, SqL.of l5⟩, ?_⟩
        repeat walk_at "rd1"
        rw [hul]
        refine ⟨_, _, _, rfl, (by walk_at "bxa"), (by first | decide | omega), (by first | decide | omega), fun v o6 v0 v1 B6 => ?_⟩
        try rw [upd_upd] at B6 ⊢
        repeat walk_at "rd1"
        refine ⟨(by first | decide | (simp only [List.length_cons, List.length_nil]; decide)), fun t6 ht6 => ?_⟩
        refine ⟨l, _, _, _, rfl, rfl, by walk_at "hpa", ?_, v0, by omega, ?_⟩
        · rw [hul, sizeLine_eq]
          omega
        have R6 : Rws (upd (upd (upd H5 b o6) t6 (.tup [.int odd, .int 3, .bl true])) l (.lst ((us.map V.ref).take v.toNat ++ [.ref t6] ++ (us.map V.ref).drop v.toNat))) (us.take v.toNat ++ [t6] ++ us.drop v.toNat) (rows.take v.toNat ++ [(odd, 3, true)] ++ rows.drop v.toNat) :=
          Rws.put (xs := us.map V.ref) (Al.ins ((R5.kept B5 (Kept.take Kept.refl)).kept B6 (Kept.new Kept.refl ht6)) _ upd_same) (by walk_at "hpa")
        have nt6 : t6 ≠ l := by walk_at "nea"
        have l6 : (upd (upd (upd H5 b o6) t6 (.tup [.int odd, .int 3, .bl true])) l (.lst ((us.map V.ref).take v.toNat ++ [.ref t6] ++ (us.map V.ref).drop v.toNat))) l = some (.lst ((us.take v.toNat ++ [t6] ++ us.drop v.toNat).map V.ref)) := by
          rw [upd_same, List.map_append, List.map_append, List.map_take, List.map_drop]
          rfl
        have D6 : (upd (upd (upd H5 b o6) t6 (.tup [.int odd, .int 3, .bl true])) l (.lst ((us.map V.ref).take v.toNat ++ [.ref t6] ++ (us.map V.ref).drop v.toNat))) D = some (.lst (hs.map V.int)) := by walk_at "hpa"
        have B7 : Bx (upd (upd (upd H5 b o6) t6 (.tup [.int odd, .int 3, .bl true])) l (.lst ((us.map V.ref).take v.toNat ++ [.ref t6] ++ (us.map V.ref).drop v.toNat))) b c := by walk_at "bxa"
        generalize hG : upd (upd (upd H5 b o6) t6 _) l _ = H6 at R6 l6 D6 B7 ⊢
        clear hG nt6 ht6 R5 l5 D5 B5 B6
        repeat walk_at "rd1"
        refine ⟨(by first | decide | (simp only [List.length_cons, List.length_nil]; decide)), fun s7 hs7 => ?_⟩
        have R7 : Rws (upd H6 s7 (.lst [.int odd])) (us.take v.toNat ++ [t6] ++ us.drop v.toNat) (rows.take v.toNat ++ [(odd, 3, true)] ++ rows.drop v.toNat) := R6.kept B7 (Kept.new Kept.refl hs7)
        have l7 : upd H6 s7 (.lst [.int odd]) l = some (.lst ((us.take v.toNat ++ [t6] ++ us.drop v.toNat).map V.ref)) := by walk_at "hpa"
        have D7 : upd H6 s7 (.lst [.int odd]) D = some (.lst (hs.map V.int)) := by walk_at "hpa"
        have B8 : Bx (upd H6 s7 (.lst [.int odd])) b c := by walk_at "bxa"
        have s8 : upd H6 s7 (.lst [.int odd]) s7 = some (.lst ([odd].map V.int)) := upd_same
        have ns7 : s7 ≠ l := by walk_at "nea"
        generalize hG : upd H6 s7 (.lst [.int odd]) = H7 at R7 l7 D7 B8 s8 ⊢
        clear hG hs7 R6 l6 D6 B7
        refine ⟨_, rfl, .inl ⟨rfl, _, SqL.of l7⟩, ?_⟩
        repeat walk_at "rd1"
        refine ⟨(by first | decide | (simp only [List.length_cons, List.length_nil]; decide)), fun t8 ht8 => ?_⟩
        refine ⟨l, _, _, rfl, rfl, by walk_at "hpa", ?_, ?_⟩
        · rw [List.length_map, R7.len, sizeLine_eq]
          simp only [List.length_append, List.length_take, List.length_drop, List.length_cons, List.length_nil]
          omega
        refine ⟨s7, [odd], us.take v.toNat ++ [t6] ++ us.drop v.toNat ++ [t8], rows.take v.toNat ++ [(odd, 3, true)] ++ rows.drop v.toNat ++ [(odd + 50, 3, true)], _, rfl, by walk_at "hpa", by walk_at "bxa", ?_, ?_, ?_, by walk_at "hpa", .inr ⟨odd, rfl, find_ins (fun r hr => by rw [ok r hr]; rfl) (by rw [e2]; rfl)⟩⟩
        · rw [upd_same, List.map_append (l₂ := [t8])]
          rfl
        · exact Rws.put (Al.snoc (R7.kept B8 (Kept.new Kept.refl ht8)) upd_same) (show upd H7 t8 _ l = _ by walk_at "hpa")
        · simp only [List.length_append, List.length_take, List.length_drop, List.length_cons, List.length_nil]
          omega
      · exact ⟨st, [], us, rows, none, rfl, by walk_at "hpa", B3, by walk_at "hpa", R1.kept B2 (Kept.take Kept.refl), by omega, by walk_at "hpa", .inl ⟨rfl, ok⟩⟩
    clear nsb nsl nsD hst hR hl hD ok hr15 B1
    clear st us rows H1
    rintro _ H1 ⟨st, odds, us, rows, v7, rfl, hD, B1, hl, hR, hr17, hst, hOk⟩
    -- trials, passed, told
    repeat walk_at "rd1"
    refine ⟨l, us, rows, rfl, hl, hR, by omega, fun p ts H2 s2 hp hp2 hT => ?_⟩
    repeat walk_at "rd1"
    intro q hq
    have nqb : q ≠ b := by
      have z : Bx H2 b c := by walk_at "bxa"
      exact Bx.nb hq z
    have s3 : Same H1 (upd H2 q (.lst (hs.map V.int))) := Same.new' s2 hq
    have hT3 : Trs K (upd H2 q (.lst (hs.map V.int))) ts rows := hT.same (Same.new' (Same.refl _) hq)
    have hp3 : upd H2 q (.lst (hs.map V.int)) p = some (.lst (ts.map V.ref)) := by walk_at "hpa"
    have hq3 : upd H2 q (.lst (hs.map V.int)) q = some (.lst (hs.map V.int)) := upd_same
    generalize hG : upd H2 q (.lst (hs.map V.int)) = H3 at s3 hT3 hp3 hq3 ⊢
    clear hG hq hp hp2 hT s2
    clear H2
    have R3 : Rws H3 us rows := Al.mono hR fun u r z => s3 _ _ z
    have B3 := B1.same s3
    have D3 := s3 _ _ hD
    have l3 := s3 _ _ hl
    have st3 := s3 _ _ hst
    clear hD B1 hl hR hst s3
    clear H1
    let F : Addr → Hp → Prop := fun w H' => H' D = some (.lst (hs.map V.int)) ∧ Bx H' b c ∧ H' l = some (.lst (us.map V.ref)) ∧ Rws H' us rows ∧ H' st = some (.lst (odds.map V.int)) ∧ H' p = some (.lst (ts.map V.ref)) ∧ Trs K H' ts rows ∧ H' q = some (.lst (hs.map V.int)) ∧
      ((odds = [] ∧ (∀ r ∈ rows, okRow hs.length r = true) ∧ H' w = some (.lst ((misN hs rows rows.length).map V.int))) ∨ ∃ o, odds = [o] ∧ H' w = some (.tup [.str "NoPlace", .int o]))
    have F.same : ∀ {w : Addr} {H' H'' : Hp}, F w H' → Same H' H'' → F w H'' := fun {w H' H''} ⟨f1, f2, f3, f4, f5, f6, f7, f8, f9⟩ sm =>
      ⟨sm _ _ f1, f2.same sm, sm _ _ f3, Al.mono f4 fun u r z => sm _ _ z, sm _ _ f5, sm _ _ f6, f7.same sm, sm _ _ f8, f9.elim (fun ⟨g1, g2, g3⟩ => .inl ⟨g1, g2, sm _ _ g3⟩) fun ⟨o, g1, g2⟩ => .inr ⟨o, g1, sm _ _ g2⟩⟩
    let S1 : Addr → L2.St := fun w => [some (.ref a), some (.ref b), some (.int tall), none, some (.ref D), some (.ref l), some (.ref st), v7, some (.ref p), some (.ref q), some (.ref w), none, none, none, none]
    refine ⟨fun σ' H' => ∃ w, σ' = S1 w ∧ F w H', ?_, ?_⟩
    · repeat walk_at "rd1"
      refine ⟨p, q, ts, rows, hs, rfl, hp3, hT3, by omega, hq3, fun r hr w H' sm hw hw2 => ?_, fun hok w H' sm hw hw2 => ?_⟩
      · refine ⟨w, rfl, sm _ _ D3, B3.same sm, sm _ _ l3, Al.mono R3 fun u r z => sm _ _ z, sm _ _ st3, sm _ _ hp3, hT3.same sm, sm _ _ hq3, ?_⟩
        rcases hOk with ⟨e, hok⟩ | ⟨o, e, hf⟩
        · rw [List.find?_eq_none.mpr fun x hx => by rw [hok x hx]; decide] at hr
          cases hr
        · rw [hf] at hr
          rw [← Option.some.inj hr] at hw2
          exact .inr ⟨o, e, hw2⟩
      · refine ⟨w, rfl, sm _ _ D3, B3.same sm, sm _ _ l3, Al.mono R3 fun u r z => sm _ _ z, sm _ _ st3, sm _ _ hp3, hT3.same sm, sm _ _ hq3, ?_⟩
        rcases hOk with ⟨e, hok⟩ | ⟨o, e, hf⟩
        · exact .inl ⟨e, hok, hw2⟩
        · have := List.find?_some hf
          rw [hok _ (List.mem_of_find?_eq_some hf)] at this
          cases this
    clear R3 B3 D3 l3 st3 hp3 hT3 hq3 hOk
    clear H3
    rintro _ H1 ⟨w, rfl, f⟩
    -- nothing is changed
    refine ⟨fun σ' H' => σ' = S1 w ∧ F w H', ?_, ?_⟩
    · obtain ⟨f1, f2, f3, f4, f5, f6, f7, f8, f9⟩ := id f
      refine ⟨_, rfl, _, rfl, _, _, .lst (SqL.of f8) (dp_ints hs), .lst (SqL.of f1) (dp_ints hs), (sok_ints (n := 0) hs).shaped, (sok_ints (n := 0) hs).shaped, ?_⟩
      rw [(sok_ints (n := 0) hs).refl]
      repeat walk_at "rd1"
      refine ⟨p, ts, rows, rfl, f6, f7, by omega, fun y us2 H5 s5 hy hy2 hR2 => ?_⟩
      refine ⟨_, rfl, _, _, .lst (SqL.of hy2) hR2.dp, .lst (SqL.of (s5 _ _ f3)) (Rws.dp (Al.mono f4 fun u r z => s5 _ _ z)), (sok_rows (n := 0) rows).shaped, (sok_rows (n := 0) rows).shaped, ?_⟩
      rw [(sok_rows (n := 0) rows).refl]
      repeat walk_at "rd1"
      exact ⟨rfl, F.same f s5⟩
    clear f
    clear H1
    rintro _ H1 ⟨rfl, f⟩
    -- what is told
    refine ⟨fun σ' H' => ∃ v11 : Option V, σ' = [some (.ref a), some (.ref b), some (.int tall), none, some (.ref D), some (.ref l), some (.ref st), v7, some (.ref p), some (.ref q), some (.ref w), v11, none, none, none] ∧ H' D = some (.lst (hs.map V.int)) ∧ Bx H' b c ∧ H' q = some (.lst (hs.map V.int)), ?_, ?_⟩
    · obtain ⟨f1, f2, f3, f4, f5, f6, f7, f8, f9⟩ := id f
      repeat walk_at "rd1"
      rcases f9 with ⟨rfl, hok, hw⟩ | ⟨o, rfl, hw⟩
      · repeat walk_at "rd1"
        have hul : (us.map V.ref).length = rows.length := by rw [List.length_map, f4.len]
        rw [hul]
        refine ⟨by omega, by omega, fun X hX => ?_⟩
        refine lc_range (lo := 0) (n := rows.length) (fun i H' => Same H1 H' ∧ H' X = some (.lst ((misN hs rows i).map V.int))) ⟨Same.put' (Same.refl _) hX, upd_same⟩ ?_ ?_
        · rintro i H' hi ⟨sm, hX2⟩
          have hi2 : i < us.length := by rw [f4.len]; exact hi
          have hr := List.getElem?_eq_getElem hi
          have e1 := at_in (f := V.ref) (l := us) (i := 0 + (i : Int)) (d := 0) (by omega) (by omega)
          have hu : us[i]? = some (us.getD (0 + (i : Int)).toNat 0) := by
            rw [show (0 + (i : Int)).toNat = i by omega, List.getD_eq_getElem?_getD, List.getElem?_eq_getElem hi2]
            rfl
          have hrow := sm _ _ (f4.get i _ _ hu hr)
          have ok1 := hok _ (List.getElem_mem hi)
          unfold rowO at hrow
          generalize us.getD (0 + (i : Int)).toNat 0 = u at e1 hrow
          have hag : agr hs rows[i] = (decide (hs.getD rows[i].1.toNat 0 ≤ rows[i].2.1) == rows[i].2.2) := rfl
          have hms := misN_succ (hs := hs) hr
          unfold okRow at ok1
          simp only [Bool.and_eq_true, decide_eq_true_eq] at ok1
          have hD' := sm _ _ f1
          have hl' := sm _ _ f3
          refine ⟨rfl, ?_⟩
          refine ⟨_, rfl, _, rfl, _, rfl, _, _, _, _, rfl, rfl, SqL.of hl', e1, _, _, _, _, rfl, rfl, SqT.of hrow, rfl, _, _, _, _, rfl, rfl, SqL.of hD', at_in (d := 0) ok1.1 ok1.2, ?_⟩
          refine ⟨_, rfl, _, rfl, _, _, _, _, rfl, rfl, SqL.of hl', e1, _, _, _, _, rfl, rfl, SqT.of hrow, rfl, _, _, rfl, rfl, ?_⟩
          refine ⟨_, rfl, _, rfl, _, _, _, _, rfl, rfl, SqL.of hl', e1, _, _, _, _, rfl, rfl, SqT.of hrow, rfl, rfl, ?_⟩
          refine ⟨_, rfl, ?_⟩
          show if (!decide (V.bl (decide (hs.getD rows[i].1.toNat 0 ≤ rows[i].2.1)) = V.bl rows[i].2.2)) = true then _ else _
          rw [dec_bl, ← hag]
          cases ha : agr hs rows[i] with
          | true =>
            refine ⟨sm, ?_⟩
            rw [hX2, hms, ha]
            simp
          | false =>
            refine ⟨_, rfl, _, hX2, ?_, Same.put' sm hX, ?_⟩
            · have := misN_len hs rows i
              rw [List.length_map, sizeLine_eq]
              omega
            · rw [upd_same, hms, ha, List.map_append]
              simp
        · rintro H' ⟨sm, hX2⟩
          refine ⟨_, rfl, _, rfl, w, X, misN hs rows rows.length, rfl, sm _ _ hw, hX2, ?_, ?_⟩
          · have := misN_len hs rows rows.length
            omega
          repeat walk_at "rd1"
          refine ⟨p, _, rfl, .inl ⟨SqL.of (sm _ _ f6), fun t ht => ?_⟩⟩
          repeat walk_at "rd1"
          have s2 : Same H' (upd H' t (.tup (ts.map V.ref))) := Same.new' (Same.refl _) ht
          refine ⟨t, q, ts, rows, hs, rfl, .inr upd_same, (f7.same sm).same s2, by omega, by walk_at "hpa", fun r hr => ?_, fun _ y H5 s5 hy hy2 => ?_⟩
          · rw [List.find?_eq_none.mpr fun x hx => by rw [hok x hx]; decide] at hr
            cases hr
          repeat walk_at "rd1"
          refine ⟨y, X, misN hs rows rows.length, rfl, hy2, s5 _ _ (s2 _ _ hX2), ?_, ?_⟩
          · have := misN_len hs rows rows.length
            omega
          repeat walk_at "rd1"
          exact ⟨s5 _ _ (s2 _ _ (sm _ _ f1)), ((f2.same sm).same s2).same s5, s5 _ _ (s2 _ _ (sm _ _ f8))⟩
      · repeat walk_at "rd1"
        refine ⟨(by first | decide | (simp only [List.length_cons, List.length_nil]; decide)), fun t ht => ?_⟩
        have sk : SOk 1 (.tuple [.str "NoPlace", .int o]) := SOk.tuple (by
          intro d hd
          simp only [List.mem_cons, List.not_mem_nil, or_false] at hd
          rcases hd with rfl | rfl
          · exact .str (by decide +kernel)
          · exact .int _)
        refine ⟨_, _, .tup (SqT.of (xs := [.str "NoPlace", .int o]) (by walk_at "hpa")) (.cons (.str _) (.cons (.int _) .nil)), .tup (SqT.of upd_same) (.cons (.str _) (.cons (.int _) .nil)), sk.shaped, sk.shaped, ?_⟩
        rw [sk.refl]
        repeat walk_at "rd1"
        exact ⟨by walk_at "hpa", by walk_at "bxa", by walk_at "hpa"⟩
    clear f F.same
    clear H1
    rintro _ H1 ⟨v11, rfl, hD, B1, hq⟩
    repeat walk_at "rd1"
    rw [hlen]
    refine ⟨_, _, _, rfl, (by walk_at "bxa"), (by first | decide | omega), (by first | decide | omega), fun x o1 x0 x1 B2 => ?_⟩
    try rw [upd_upd] at B2 ⊢
    have ai := at_in (f := V.int) (l := hs) (d := 0) x0 x1
    repeat walk_at "rd1"
    refine ⟨_, _, _, _, rfl, rfl, SqL.of (by walk_at "hpa"), ai, ?_⟩
    have hD2 : upd H1 b o1 D = some (.lst (hs.map V.int)) := by walk_at "hpa"
    have hq2 : upd H1 b o1 q = some (.lst (hs.map V.int)) := by walk_at "hpa"
    generalize hG : upd H1 b o1 = H2 at B2 hD2 hq2 ⊢
    clear hG hD hq B1
    clear H1
    generalize hx : hs.getD x.toNat 0 = h at ai
    refine ⟨x, h, rfl, fun pl u1 u2 H3 s3 hpl hpl2 hT3 => ?_⟩
    have npb : pl ≠ b := by walk_at "nea"
    have hD3 := s3 _ _ hD2
    have hq3 := s3 _ _ hq2
    have B3 := B2.same s3
    clear hD2 hq2 B2 hpl s3
    clear H2
    repeat walk_at "rd1"
    refine ⟨pl, [u1, u2], _, rfl, hpl2, hT3, by simp, fun y us2 H5 s5 hy hy2 hR2 => ?_⟩
    have hD5 := s5 _ _ hD3
    have hq5 := s5 _ _ hq3
    have B5 := B3.same s5
    have hT5 := hT3.same s5
    have pl5 := s5 _ _ hpl2
    clear hD3 hq3 B3 hT3 hpl2 s5 hy
    clear H3
    repeat walk_at "rd1"
    refine ⟨_, _, _, _, rfl, rfl, SqL.of (by walk_at "hpa"), ai, ?_⟩
    refine ⟨(by first | decide | (simp only [List.length_cons, List.length_nil]; decide)), fun t1 ht1 => ?_⟩
    repeat walk_at "rd1"
    refine ⟨_, _, _, _, rfl, rfl, SqL.of (by walk_at "hpa"), ai, ?_⟩
    repeat walk_at "rd1"
    refine ⟨(by first | decide | (simp only [List.length_cons, List.length_nil]; decide)), fun t2 ht2 => ?_⟩
    repeat walk_at "rd1"
    refine ⟨(by first | decide | (simp only [List.length_cons, List.length_nil]; decide)), fun t3 ht3 => ?_⟩
    have s6 : Same H5 (upd (upd (upd H5 t1 (.tup [.int x, .int h, .bl true])) t2 (.tup [.int x, .int (h - 1), .bl false])) t3 (.lst [.ref t1, .ref t2])) := Same.new' (Same.new' (Same.new' (Same.refl _) ht1) ht2) ht3
    have a1 : (upd (upd (upd H5 t1 (.tup [.int x, .int h, .bl true])) t2 (.tup [.int x, .int (h - 1), .bl false])) t3 (.lst [.ref t1, .ref t2])) t1 = some (.tup [.int x, .int h, .bl true]) := by walk_at "hpa"
    have a2 : (upd (upd (upd H5 t1 (.tup [.int x, .int h, .bl true])) t2 (.tup [.int x, .int (h - 1), .bl false])) t3 (.lst [.ref t1, .ref t2])) t2 = some (.tup [.int x, .int (h - 1), .bl false]) := by walk_at "hpa"
    have a3 : (upd (upd (upd H5 t1 (.tup [.int x, .int h, .bl true])) t2 (.tup [.int x, .int (h - 1), .bl false])) t3 (.lst [.ref t1, .ref t2])) t3 = some (.lst [.ref t1, .ref t2]) := by walk_at "hpa"
    generalize hG : upd (upd (upd H5 t1 _) t2 _) t3 _ = H6 at s6 a1 a2 a3 ⊢
    clear hG ht1 ht2 ht3
    have R6 : Rws H6 [t1, t2] [(x, h, true), (x, h - 1, false)] := .cons a1 (.cons a2 .nil)
    refine ⟨_, _, .lst (SqL.of (s6 _ _ hy2)) (Rws.dp (Al.mono hR2 fun u r z => s6 _ _ z)), .lst (SqL.of a3) (Rws.dp (us := [t1, t2]) R6), (sok_rows (n := 0) _).shaped, (sok_rows (n := 0) _).shaped, ?_⟩
    rw [(sok_rows (n := 0) _).refl]
    have hD6 := s6 _ _ hD5
    have hq6 := s6 _ _ hq5
    have B6 := B5.same s6
    have hT6 := hT5.same s6
    have pl6 := s6 _ _ pl5
    clear R6 a1 a2 a3 hR2 hy2 hD5 hq5 B5 hT5 pl5 s6
    clear H5
    repeat walk_at "rd1"
    intro nr hnr
    have nnb : nr ≠ b := by walk_at "nea"
    have hT7 := hT6.same (Same.new' (o := .lst (hs.map V.int)) (Same.refl _) hnr)
    have npl : nr ≠ pl := by walk_at "nea"
    have nnq : nr ≠ q := by walk_at "nea"
    repeat walk_at "rd1"
    refine ⟨_, _, _, _, rfl, rfl, SqL.of (by walk_at "hpa"), ai, ?_⟩
    repeat walk_at "rd1"
    refine ⟨_, _, _, rfl, (by walk_at "bxa"), (by first | decide | omega), (by first | decide | omega), fun z o2 z0 z1 B8 => ?_⟩
    try rw [upd_upd] at B8 ⊢
    have kt : Kept b (upd H6 nr (.lst (hs.map V.int))) (upd (upd H6 nr (.lst (hs.map V.int))) b o2) := Kept.take Kept.refl
    have B7 : Bx (upd H6 nr (.lst (hs.map V.int))) b c := by walk_at "bxa"
    have hT8 := hT7.kept B7 kt
    repeat walk_at "rd1"
    refine ⟨nr, _, x, x.toNat, rfl, rfl, by walk_at "hpa", ?_, ?_⟩
    · rw [hlen]
      have e := Evl.ixN_nat (n := hs.length) (j := x.toNat) (by omega)
      rw [Int.toNat_of_nonneg x0] at e
      exact e
    have nr9 : (upd (upd (upd H6 nr (.lst (hs.map V.int))) b o2) nr (.lst ((hs.set x.toNat (h + 1 - 2 * z)).map V.int))) nr = some (.lst ((hs.set x.toNat (h + 1 - 2 * z)).map V.int)) := upd_same
    have q9 : (upd (upd (upd H6 nr (.lst (hs.map V.int))) b o2) nr (.lst ((hs.set x.toNat (h + 1 - 2 * z)).map V.int))) q = some (.lst (hs.map V.int)) := by walk_at "hpa"
    have pl9 : (upd (upd (upd H6 nr (.lst (hs.map V.int))) b o2) nr (.lst ((hs.set x.toNat (h + 1 - 2 * z)).map V.int))) pl = some (.lst ([u1, u2].map V.ref)) := by walk_at "hpa"
    have hT9 : Trs K (upd (upd (upd H6 nr (.lst (hs.map V.int))) b o2) nr (.lst ((hs.set x.toNat (h + 1 - 2 * z)).map V.int))) [u1, u2] [(x, h, true), (x, h - 1, false)] :=
      Al.mono hT8 fun u r ⟨dx, zz⟩ => ⟨dx, by rw [upd_ne (fun qq => by rw [qq, upd_ne nnb, upd_same] at zz; cases zz)]; exact zz⟩
    rw [show ((hs.map V.int).set x.toNat ((fun i j => V.int (i - j)) (h + 1) (2 * z))) = (hs.set x.toNat (h + 1 - 2 * z)).map V.int by rw [List.map_set]]
    generalize hG : upd (upd (upd H6 nr _) b o2) nr _ = H9 at nr9 q9 pl9 hT9 ⊢
    clear hG hT8 B7 kt B8 hT7 hnr hD6 hq6 B6 hT6 pl6
    clear H6
    have okx : ∀ n : Nat, x < (n : Int) → ∀ r ∈ [((x, h, true) : Row), (x, h - 1, false)], okRow n r = true := fun n hn r hr => by
      simp only [List.mem_cons, List.not_mem_nil, or_false] at hr
      rcases hr with rfl | rfl <;> (unfold okRow; simp [x0, hn])
    repeat walk_at "rd1"
    refine ⟨pl, q, [u1, u2], _, hs, rfl, .inl pl9, hT9, by simp, q9, fun r hr => ?_, fun _ y1 HA sA hy1 hy2 => ?_⟩
    · rw [List.find?_eq_none.mpr fun x hx => by rw [okx hs.length x1 x hx]; decide] at hr
      cases hr
    have m1 : misN hs [((x, h, true) : Row), (x, h - 1, false)] [((x, h, true) : Row), (x, h - 1, false)].length = [] := by
      have g1 : agr hs (x, h, true) = true := by
        show (decide (hs.getD x.toNat 0 ≤ h) == true) = true
        rw [hx, decide_eq_true (Int.le_refl h)]
        rfl
      have g2 : agr hs (x, h - 1, false) = true := by
        show (decide (hs.getD x.toNat 0 ≤ h - 1) == false) = true
        rw [hx, decide_eq_false (by omega)]
        rfl
      show misN hs [((x, h, true) : Row), (x, h - 1, false)] (0 + 1 + 1) = []
      rw [misN_succ (r := (x, h - 1, false)) rfl, misN_succ (r := (x, h, true)) rfl, g1, g2]
      rfl
    rw [m1] at hy2
    refine ⟨(by first | decide | (simp only [List.length_cons, List.length_nil]; decide)), fun y3 hy3 => ?_⟩
    refine ⟨.list [], .list [], .lst (SqL.of (xs := []) (by walk_at "hpa")) .nil, .lst (SqL.of upd_same) .nil, rfl, rfl, ?_⟩
    refine ⟨true, rfl, ?_⟩
    repeat walk_at "rd1"
    have sB : Same H9 (upd HA y3 (.lst [])) := Same.new' sA hy3
    refine ⟨pl, nr, [u1, u2], _, hs.set x.toNat (h + 1 - 2 * z), rfl, .inl (sB _ _ pl9), hT9.same sB, by simp, sB _ _ nr9, fun r hr => ?_, fun _ y4 HC sC hy4 hy5 => ?_⟩
    · rw [List.find?_eq_none.mpr fun x hx => by rw [okx _ (by rw [List.length_set]; exact x1) x hx]; decide] at hr
      cases hr
    have m2 : (misN (hs.set x.toNat (h + 1 - 2 * z)) [((x, h, true) : Row), (x, h - 1, false)] [((x, h, true) : Row), (x, h - 1, false)].length).length = 1 := by
      have e : (hs.set x.toNat (h + 1 - 2 * z)).getD x.toNat 0 = h + 1 - 2 * z := by
        rw [List.getD_eq_getElem?_getD, List.getElem?_set_self (by omega)]
        rfl
      show (misN (hs.set x.toNat (h + 1 - 2 * z)) [((x, h, true) : Row), (x, h - 1, false)] (0 + 1 + 1)).length = 1
      rw [misN_succ (r := (x, h - 1, false)) rfl, misN_succ (r := (x, h, true)) rfl]
      have g1 : agr (hs.set x.toNat (h + 1 - 2 * z)) (x, h, true) = decide (h + 1 - 2 * z ≤ h) := by
        show (decide ((hs.set x.toNat (h + 1 - 2 * z)).getD x.toNat 0 ≤ h) == true) = _
        rw [e]
        cases decide (h + 1 - 2 * z ≤ h) <;> rfl
      have g2 : agr (hs.set x.toNat (h + 1 - 2 * z)) (x, h - 1, false) = !decide (h + 1 - 2 * z ≤ h - 1) := by
        show (decide ((hs.set x.toNat (h + 1 - 2 * z)).getD x.toNat 0 ≤ h - 1) == false) = _
        rw [e]
        cases decide (h + 1 - 2 * z ≤ h - 1) <;> rfl
      rw [g1, g2]
      rcases (show z = 0 ∨ z = 1 by omega) with rfl | rfl
      · rw [decide_eq_false (show ¬ (h + 1 - 2 * 0 ≤ h) by omega), decide_eq_false (show ¬ (h + 1 - 2 * 0 ≤ h - 1) by omega)]
        rfl
      · rw [decide_eq_true (show h + 1 - 2 * 1 ≤ h by omega), decide_eq_true (show h + 1 - 2 * 1 ≤ h - 1 by omega)]
        rfl
    repeat walk_at "rd1"
    refine ⟨rfl, ?_⟩
    rw [List.length_map, m2]
    exact k _
theorem ok_law0 (T : Txt K mg) : FnOk PP w K mg base CX0 4 (He.ga K "law") T.fd_law ["_law_script"] (sp_law K) := fn_calm (ok_law T) fun _ _ _ _ h => h

end
def d_law_box : He.DefD := ⟨("_law_box", none), "_law_box", "_law_box", defArgs s_law_box, defBody s_law_box, defScope s_law_box, [], []⟩
def d_law_take : He.DefD := ⟨("_law_take", none), "_law_take", "_law_take", defArgs s_law_take, defBody s_law_take, defScope s_law_take, [], []⟩
def d_TrialU_initU : He.DefD := ⟨("Trial", some "__init__"), "__init__", "Trial.__init__", defArgs s_TrialU_initU, defBody s_TrialU_initU, defScope s_TrialU_initU, [], []⟩
def d_Trial_agrees : He.DefD := ⟨("Trial", some "agrees"), "agrees", "Trial.agrees", defArgs s_Trial_agrees, defBody s_Trial_agrees, defScope s_Trial_agrees, [], []⟩
def d_misread_numbers : He.DefD := ⟨("misread_numbers", none), "misread_numbers", "misread_numbers", defArgs s_misread_numbers, defBody s_misread_numbers, defScope s_misread_numbers, [], []⟩
def d_pinned : He.DefD := ⟨("pinned", none), "pinned", "pinned", defArgs s_pinned, defBody s_pinned, defScope s_pinned, [], []⟩
def d_law_numbers : He.DefD := ⟨("_law_numbers", none), "_law_numbers", "_law_numbers", defArgs s_law_numbers, defBody s_law_numbers, defScope s_law_numbers, [], []⟩
def d_law_tries : He.DefD := ⟨("_law_tries", none), "_law_tries", "_law_tries", defArgs s_law_tries, defBody s_law_tries, defScope s_law_tries, [], []⟩
def d_law_trials : He.DefD := ⟨("_law_trials", none), "_law_trials", "_law_trials", defArgs s_law_trials, defBody s_law_trials, defScope s_law_trials, [], []⟩
def d_law_rows : He.DefD := ⟨("_law_rows", none), "_law_rows", "_law_rows", defArgs s_law_rows, defBody s_law_rows, defScope s_law_rows, [], []⟩
def d_law_outcome : He.DefD := ⟨("_law_outcome", none), "_law_outcome", "_law_outcome", defArgs s_law_outcome, defBody s_law_outcome, defScope s_law_outcome, [], []⟩
def d_law : He.DefD := ⟨("law", none), "law", "law", defArgs s_law, defBody s_law, defScope s_law, [], []⟩
def fnL : List He.DefD := [d_law_box, d_law_take, d_TrialU_initU, d_Trial_agrees, d_misread_numbers, d_pinned, d_law_numbers, d_law_tries, d_law_trials, d_law_rows, d_law_outcome, d_law]
def erL : List Hd.ErD := [⟨"NoPlace", "NoPlace.__init__", inClass (top 3) 0⟩]
def faL : List He.Fa := [.glo "NoPlace", .glo "Trial", .glo "_law_box", .glo "_law_numbers", .glo "_law_outcome", .glo "_law_rows", .glo "_law_take", .glo "_law_trials", .glo "_law_tries", .glo "law", .glo "misread_numbers", .glo "pinned", .free "bool", .free "enumerate", .free "int", .free "isinstance", .free "len", .free "list", .free "range", .free "super", .free "tuple", .cls "Trial", .noat "Trial" "height", .noat "Trial" "place", .noat "Trial" "reached", .meth "Trial" "agrees", .mkr "Trial", .exm "NoPlace" "NoPlace" true]
def exL (K : PySem.W.Frag) : Bool := (faL.all fun f => f.ok K) && (Hd.errB PP K "NoPlace" "place" "NoPlace.__init__" && true)
abbrev R : PySem.W.OpenRow := PySem.W.OpenLaw.row PySem.Challenge.rw_rungbounds_k15_misread_and_pinned
abbrev hk : PySem.W.Hook := Hd.hookP 6 fnL erL exL
def loose : List Str := (["_wall", "LadderError", "NoPlace", "Trial", "misread_numbers", "pinned", "_law_box", "_law_take", "_law_numbers", "_law_tries", "_law_trials", "_law_outcome", "_law_rows"] : List Str)
def ob (s : PySem.W.SharedT) : Hd.AlP := Hd.obsPG 6 fnL erL exL (HandSHeadRun.getT s)
theorem ob_eq (s : PySem.W.SharedT) : ob s = hk.obs s.abs := Hd.obsPG_eq (HandSHeadRun.getT_eq s)
theorem run (w : World) : HandSHeadRun.RunEq R (PySem.W.view R.prog [16]) hk ob 6000 loose w := by
  intro os
  kernel_rfl
theorem facts {K : PySem.W.Frag} {h : Heap} {mg : Str → Option Value} (X : K.In h) (G : h.Ns mainGlobals mg) (c : Hd.SaysP fnL erL exL K) : Nonempty (Txt K mg) := by
  have c0 : ((faL.all fun f => f.ok K) && (Hd.errB PP K "NoPlace" "place" "NoPlace.__init__" && true)) = true := c.more
  obtain ⟨c1, c2⟩ := He.ba c0
  have ff : ∀ f ∈ faL, f.ok K = true := List.all_eq_true.mp c1
  obtain ⟨fd0, F0⟩ := c.def_ 0 (d := d_law_box) rfl
  obtain ⟨fd1, F1⟩ := c.def_ 1 (d := d_law_take) rfl
  obtain ⟨fd2, F2⟩ := c.def_ 2 (d := d_TrialU_initU) rfl
  obtain ⟨fd3, F3⟩ := c.def_ 3 (d := d_Trial_agrees) rfl
  obtain ⟨fd4, F4⟩ := c.def_ 4 (d := d_misread_numbers) rfl
  obtain ⟨fd5, F5⟩ := c.def_ 5 (d := d_pinned) rfl
  obtain ⟨fd6, F6⟩ := c.def_ 6 (d := d_law_numbers) rfl
  obtain ⟨fd7, F7⟩ := c.def_ 7 (d := d_law_tries) rfl
  obtain ⟨fd8, F8⟩ := c.def_ 8 (d := d_law_trials) rfl
  obtain ⟨fd9, F9⟩ := c.def_ 9 (d := d_law_rows) rfl
  obtain ⟨fd10, F10⟩ := c.def_ 10 (d := d_law_outcome) rfl
  obtain ⟨fd11, F11⟩ := c.def_ 11 (d := d_law) rfl
  obtain ⟨z0, c2⟩ := He.ba c2
  exact ⟨Txt.mk (fd0)
    (F0)
    (fd1)
    (F1)
    (fd2)
    (F2)
    (fd3)
    (F3)
    (fd4)
    (F4)
    (fd5)
    (F5)
    (fd6)
    (F6)
    (fd7)
    (F7)
    (fd8)
    (F8)
    (fd9)
    (F9)
    (fd10)
    (F10)
    (fd11)
    (F11)
    (He.glo_ok X G (ff (.glo "NoPlace") (by simp [faL])))
    (He.glo_ok X G (ff (.glo "Trial") (by simp [faL])))
    (He.glo_ok X G (ff (.glo "_law_box") (by simp [faL])))
    (He.glo_ok X G (ff (.glo "_law_numbers") (by simp [faL])))
    (He.glo_ok X G (ff (.glo "_law_outcome") (by simp [faL])))
    (He.glo_ok X G (ff (.glo "_law_rows") (by simp [faL])))
    (He.glo_ok X G (ff (.glo "_law_take") (by simp [faL])))
    (He.glo_ok X G (ff (.glo "_law_trials") (by simp [faL])))
    (He.glo_ok X G (ff (.glo "_law_tries") (by simp [faL])))
    (He.glo_ok X G (ff (.glo "law") (by simp [faL])))
    (He.glo_ok X G (ff (.glo "misread_numbers") (by simp [faL])))
    (He.glo_ok X G (ff (.glo "pinned") (by simp [faL])))
    (He.free_ok X G (ff (.free "bool") (by simp [faL])))
    (He.free_ok X G (ff (.free "enumerate") (by simp [faL])))
    (He.free_ok X G (ff (.free "int") (by simp [faL])))
    (He.free_ok X G (ff (.free "isinstance") (by simp [faL])))
    (He.free_ok X G (ff (.free "len") (by simp [faL])))
    (He.free_ok X G (ff (.free "list") (by simp [faL])))
    (He.free_ok X G (ff (.free "range") (by simp [faL])))
    (He.free_ok X G (ff (.free "super") (by simp [faL])))
    (He.free_ok X G (ff (.free "tuple") (by simp [faL])))
    (He.cls_ok (ff (.cls "Trial") (by simp [faL])))
    (He.noat_ok (ff (.noat "Trial" "height") (by simp [faL])))
    (He.noat_ok (ff (.noat "Trial" "place") (by simp [faL])))
    (He.noat_ok (ff (.noat "Trial" "reached") (by simp [faL])))
    (He.meth_ok (ff (.meth "Trial" "agrees") (by simp [faL])))
    (He.mkr_ok (ff (.mkr "Trial") (by simp [faL])))
    (He.exm_ok (ff (.exm "NoPlace" "NoPlace" true) (by simp [faL])))
    (Hd.err_mk (x := "place") (msg := "no such place") (p1 := ⟨9, 17, 9, 21⟩) (p2 := ⟨9, 23, 9, 28⟩) (q1 := ⟨10, 8, 10, 13⟩) (q2 := ⟨10, 8, 10, 15⟩) (q3 := ⟨10, 8, 10, 24⟩) (q4 := ⟨10, 25, 10, 40⟩) (q5 := ⟨10, 8, 10, 41⟩) (q6 := ⟨10, 8, 10, 41⟩) (q7 := ⟨11, 8, 11, 12⟩) (q8 := ⟨11, 8, 11, 18⟩) (q9 := ⟨11, 21, 11, 26⟩) (q10 := ⟨11, 8, 11, 26⟩) z0 (c.err_ 0 rfl) rfl rfl rfl rfl (by decide +kernel) (by decide +kernel) (by decide +kernel) (by decide +kernel) (by decide +kernel) (fun _ _ _ _ _ _ _ _ _ _ _ _ _ _ => rfl))⟩
end Pf
open PySem PySem.W PySem.Calls PyProof.Rows
set_option maxHeartbeats 0 in
theorem PySem.Challenge.cw_rungbounds_k15_misread_and_pinned_holds : PySem.Challenge.rw_rungbounds_k15_misread_and_pinned.Holds := by
  w_on; o_law
  refine HandSHeadRun.head_any (r := OpenLaw.row PySem.Challenge.rw_rungbounds_k15_misread_and_pinned) (q := view (OpenLaw.row PySem.Challenge.rw_rungbounds_k15_misread_and_pinned).prog [16]) (H := Pf.hk) (ob := Pf.ob) (M := 6000) (loose := Pf.loose) (d := HandSHeadRun.topDef (OpenLaw.row PySem.Challenge.rw_rungbounds_k15_misread_and_pinned).prog 16) (kwd := []) Pf.ob_eq
    (by kernel_rfl) (fun s => by kernel_rfl) Pf.run (by kernel_rfl) (by kernel_rfl) (by kernel_rfl) (by rfl) (by first | assumption | decide +kernel) (by decide +kernel) ⟨rfl, rfl, rfl, rfl, rfl, by decide +kernel⟩ ?hw ?hc
  case hw => w_witness2
  case hc =>
    refine L2.walk_ofE (l := PySem.Challenge.rw_rungbounds_k15_misread_and_pinned) (n := 63) (k := 4) (x := "_law_script") (CX := L2.CX0) rfl (by decide) (by kernel_rfl) ⟨rfl, by decide, by decide⟩ ?F (fun _ _ _ _ z => z)
    intro w mg fa h Y G hmg0
    obtain ⟨K, KX, c⟩ := Y
    have hmg : mg ("law" : PySem.Str) = some (.ref fa) := by
      have e : (HandSHeadRun.topDef (OpenLaw.row PySem.Challenge.rw_rungbounds_k15_misread_and_pinned).prog 16).name = ("law" : PySem.Str) := by kernel_rfl
      rw [← e]
      exact hmg0
    obtain ⟨T⟩ := Pf.facts KX G c
    have e := hmg.symm.trans T.m_law
    cases e
    have b := L2.FunD.bindsA (ps := ["_law_script"]) T.F_law fun _ _ _ _ _ _ us hl => match us, hl with | [_], _ => rfl
    exact ⟨K, T.fd_law, Pf.sp_law K, KX, fun s v => b s [v] rfl, fun H a ns hl hO hS => ⟨a, ns, rfl, hS, hl, fun _ => rfl⟩, fun base hb hn => Pf.ok_law0 (w := w) (base := base) T⟩
#print axioms PySem.Challenge.cw_rungbounds_k15_misread_and_pinned_holds
